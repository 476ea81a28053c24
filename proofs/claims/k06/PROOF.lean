import PyProof.Rows.All
import Wide.All
import OpenK.AllK
import Wide.FinOn
import KE.KStateDown
import Lean
import HandS.ForMost
import HandS.Exc
import HandS.TryOnly
import HandS.ExcOwn
import HandS.ExcInit
import HandS.WordsExc
import HandS.Codes
import HandS.Lambda
import HandS.Defaults
import HandS.IsInst
import HandS.StrMore
import HandS.Wide
import HandS.Flow
import HandS.Style
import HandS.EndBits
import HandS.EndTab
import HandS.HeadHook2
import HandS.HeadWalk
import HandS.HeadHook4
import HandS.TupAny
import HandS.Conv
import HandS.Small
import HandS.RaiseMore
import KE.KUnpackStar
import HandS.Walk
import HandS.RevRange
import HandS.Steps
import HandS.ExcValue
import HandS.ExcField
import KE.KExcIs
import KE.KTryMore
import HandS.Head0
import HandS.Head1
import HandS.Head2
import PySem.Challenge.RW_drawlab_k06_whole_texts_there_and_back
set_option Elab.async false
set_option linter.all false
set_option maxRecDepth 100000
set_option maxHeartbeats 4000001
namespace K6
open L2 PySem PySem.Spec PyProof.Rows
def top (i : Nat) : Stmt := PySem.Challenge.pw_drawlab_k06_whole_texts_there_and_back.main.body.getD i (.Pass ⟨0, 0, 0, 0⟩)
structure Cl (P : Program) (w : World) (K : PySem.W.Frag) (mg : Str → Option Value) (base : Heap) (k : Nat) (x : Str) (sp : Sp) : Prop where
  ex : ∃ (f : Addr) (fd : FuncData) (ps : List Str), FnOk P w K mg base (L2.CX P w) k f fd ps sp ∧ mg x = some (.ref f) ∧ PySem.W.keepIn K (.ref f) = true ∧ Binds K fd ps []
structure Df (K : PySem.W.Frag) (mg : Str → Option Value) (x : Str) (st : Stmt) (ps : List Str) : Prop where
  ex : ∃ (f : Addr) (fd : FuncData), FunD K x x (defArgs st) (defBody st) (defScope st) [] [] f fd ∧ mg x = some (.ref f)
  b : ∀ (kV doc pm : Value) (an : Option Addr) (cdv ct : Value) (us : List Value), us.length = ps.length → bindArgs (PySem.W.fnOf x x (defArgs st) (defBody st) (defScope st) .none kV doc pm an cdv ct) ⟨us, []⟩ = pure (ps.zip us)
section
variable {P : Program}
variable {w : World} {K : PySem.W.Frag} {mg : Str → Option Value} {base : Heap}
theorem Cl.mono {j k : Nat} {x : Str} {sp : Sp} (c : Cl P w K mg base j x sp) (h : j ≤ k) : Cl P w K mg base k x sp := by
  obtain ⟨f, fd, ps, F, m, kp, b⟩ := c.ex
  exact ⟨f, fd, ps, F.mono h, m, kp, b⟩
theorem Cl.imp {k : Nat} {x : Str} {sp sp' : Sp} (c : Cl P w K mg base k x sp) (h : ∀ vs H Q E, sp' vs H Q E → sp vs H Q E) : Cl P w K mg base k x sp' := by
  obtain ⟨f, fd, ps, F, m, kp, b⟩ := c.ex
  exact ⟨f, fd, ps, F.imp h, m, kp, b⟩
theorem Df.cl {x : Str} {st : Stmt} {N ps : List Str} {k : Nat} {sp : Sp} (F : Df K mg x st ps) (S : FnScope N ps (defScope st)) (len : ∀ vs H Q E, sp vs H Q E → vs.length = ps.length)
    (hbody : ∀ (f : Addr) (cdv : Value) (A : Around) (outer : List Env) (s : Shared) (H : Hp) (vs : List V) (Q : VK) (E : XK), Room k (A.deeper (envOfC x (defScope st) s.heap.objs.size f cdv)) → sp vs H Q E →
      ∃ t, PSs (cxOf (L2.CX P w) P w K mg base N x (defScope st) f cdv A outer s H E) (defBody st) t ∧ t { nx := fun _ H' => Q .non H', rt := Q } (start N vs) H) : Cl P w K mg base (k + 1) x sp := by
  obtain ⟨f, fd, FD, m⟩ := F.ex
  exact ⟨f, fd, ps, FD.ok S len fun cdv A outer s H vs Q E hr h => hbody f cdv A outer s H vs Q E hr h, m, FD.kp, FD.bindsN F.b⟩
end
section
variable {X : Cx} {k j : Nat} {x : Str} {sp : Sp} {p pos : Pos} {e : Expr} {es : List Expr} {t : TA}
theorem pf (c : Cl X.prog X.w X.K X.mg X.base k x sp) (hr : Room j X.A) (hk : k ≤ j) (hg : Gl X x) (ha : PA X (e :: es) t)
    (hdb :
        (x == ("__debug__" : Str)) = false := by decide) (he : starEach (e :: es) X.env = (false, eval e X.env) :: starEach es X.env := by rfl) (hpl : (backTo pos (starEach es X.env)).any (·.1) = false := by rfl) :
    PE X (.Call (.Name x p) (e :: es) [] pos) (tCall sp [] E0 t) := by
  obtain ⟨f, fd, ps, F, m, kp, b⟩ := c.ex
  exact pe_call F (hr.mono hk) hg m kp b .nil passL ha hdb he hpl
theorem pfX {W : WX} {E : XK} (c : Cl X.prog X.w X.K X.mg X.base k x sp) (tk : Takes X W) (hW : ∀ c d σ H, E c d H → W c d σ H) (hr : Room j X.A) (hk : k ≤ j) (hg : Gl X x) (ha : PA X (e :: es) t)
    (hdb :
        (x == ("__debug__" : Str)) = false := by decide) (he : starEach (e :: es) X.env = (false, eval e X.env) :: starEach es X.env := by rfl) (hpl : (backTo pos (starEach es X.env)).any (·.1) = false := by rfl) :
    PE X (.Call (.Name x p) (e :: es) [] pos) (tCall sp [] E t) := by
  obtain ⟨f, fd, ps, F, m, kp, b⟩ := c.ex
  exact pe_call F (hr.mono hk) hg m kp b .nil (passes_call tk hW) ha hdb he hpl
theorem pset (i : Nat) {te : TE} {pos' : Pos} (hN : X.N.Nodup) (he : PE X e te) (hi : X.N[i]? = some x := by rfl) (hx : Loc X.env.scope x := by first | exact Or.inl rfl | exact Or.inr rfl) (hs : swapsWith e (some (.Name x pos')) pos.line X.env = pure false := by rfl) (hf : X.fn x = true ∨ X.env.scope.names.lookup x = some .local := by first | exact .inl rfl | exact .inr rfl | assumption) :
    PS X (.Assign [.Name x pos'] e pos) (tAsg te (gName i)) := ps_set hN hi hx he hs hf
theorem pgn (i : Nat) (hN : X.N.Nodup) (hi : X.N[i]? = some x := by rfl) (hx : Loc X.env.scope x := by first | exact Or.inl rfl | exact Or.inr rfl) (hf : X.fn x = true ∨ X.env.scope.names.lookup x = some .local := by first | exact .inl rfl | exact .inr rfl | assumption) : PG X (.Name x pos) (gName i) := pg_name hN hi hx hf
theorem pty {n : String} (hg : Gl X x) (hm : X.mg x = none) (hv : bootBuiltins x = some (.type n) := by decide +kernel) (hn : x ≠ "__name__" := by decide) (hd : (x == ("__debug__" : Str)) = false := by decide) : PE X (.Name x pos) (tC (.ty n)) := pe_bltn hg hm hv rfl hn hd
end
abbrev S := SX.S
inductive D where
  | int (i : Int)
  | str (s : List Nat)
  | bl (b : Bool)
  | non
  | oth
  | tup (ds : List D)
inductive Rep (H : Hp) : V → D → Prop where
  | int (i : Int) : Rep H (.int i) (.int i)
  | str (l : List Nat) : l.length ≤ 1000000 → Rep H (.str (S l)) (.str l)
  | bl (b : Bool) : Rep H (.bl b) (.bl b)
  | non : Rep H .non .non
  | lst {a : Addr} {xs : List V} : H a = some (.lst xs) → Rep H (.ref a) .oth
  | dic {a : Addr} {kvs : List (Key × V)} : H a = some (.dK kvs) → Rep H (.ref a) .oth
  | tup {a : Addr} {xs : List V} {ds : List D} : H a = some (.tup xs) → xs.length = ds.length → (∀ (i : Nat) (x : V) (d : D), xs[i]? = some x → ds[i]? = some d → Rep H x d) → Rep H (.ref a) (.tup ds)
def Reps (H : Hp) (xs : List V) (ds : List D) : Prop := xs.length = ds.length ∧ ∀ (i : Nat) (x : V) (d : D), xs[i]? = some x → ds[i]? = some d → Rep H x d
structure Gr (H H' : Hp) : Prop where
  tup : ∀ b xs, H b = some (.tup xs) → H' b = some (.tup xs)
  lst : ∀ b xs, H b = some (.lst xs) → ∃ ys, H' b = some (.lst ys)
  dic : ∀ b kvs, H b = some (.dK kvs) → ∃ ks, H' b = some (.dK ks)
theorem Gr.refl (H : Hp) : Gr H H := ⟨fun _ _ h => h, fun _ xs h => ⟨xs, h⟩, fun _ kvs h => ⟨kvs, h⟩⟩
theorem Gr.trans {H H1 H2 : Hp} (a : Gr H H1) (b : Gr H1 H2) : Gr H H2 :=
  ⟨fun c xs h => b.tup c xs (a.tup c xs h), fun c xs h => let ⟨ys, q⟩ := a.lst c xs h; b.lst c ys q, fun c xs h => let ⟨ys, q⟩ := a.dic c xs h; b.dic c ys q⟩
theorem Gr.of {H H' : Hp} (a : Same H H') : Gr H H' := ⟨fun _ _ h => a _ _ h, fun _ xs h => ⟨xs, a _ _ h⟩, fun _ xs h => ⟨xs, a _ _ h⟩⟩
theorem Rep.gr {H H' : Hp} {v : V} {d : D} (r : Rep H v d) (g : Gr H H') : Rep H' v d := by
  induction r with
  | int i => exact .int i
  | str l h => exact .str l h
  | bl b => exact .bl b
  | non => exact .non
  | lst h => obtain ⟨ys, q⟩ := g.lst _ _ h; exact .lst q
  | dic h => obtain ⟨ys, q⟩ := g.dic _ _ h; exact .dic q
  | tup h l _ ih => exact .tup (g.tup _ _ h) l ih
theorem Reps.gr {H H' : Hp} {xs : List V} {ds : List D} (r : Reps H xs ds) (g : Gr H H') : Reps H' xs ds := ⟨r.1, fun i x d h1 h2 => (r.2 i x d h1 h2).gr g⟩
theorem Rep.same {H H' : Hp} {v : V} {d : D} (r : Rep H v d) (g : Same H H') : Rep H' v d := r.gr (.of g)
theorem Reps.same {H H' : Hp} {xs : List V} {ds : List D} (r : Reps H xs ds) (g : Same H H') : Reps H' xs ds := r.gr (.of g)
theorem Rep.tup_inv {H : Hp} {v : V} {ds : List D} (r : Rep H v (.tup ds)) : ∃ a xs, v = .ref a ∧ H a = some (.tup xs) ∧ Reps H xs ds := by
  cases r with
  | tup h l f => exact ⟨_, _, rfl, h, l, f⟩
theorem Reps.nil {H : Hp} : Reps H [] [] := ⟨rfl, fun i x d h => by simp at h⟩
theorem Reps.cons {H : Hp} {x : V} {d : D} {xs : List V} {ds : List D} (r : Rep H x d) (t : Reps H xs ds) : Reps H (x :: xs) (d :: ds) := by
  refine ⟨by simp [t.1], fun i y e h1 h2 => ?_⟩
  cases i with
  | zero => simp at h1 h2; subst h1 h2; exact r
  | succ i => exact t.2 i y e (by simpa using h1) (by simpa using h2)
theorem Reps.app {H : Hp} {xs ys : List V} {ds es : List D} (r : Reps H xs ds) (t : Reps H ys es) : Reps H (xs ++ ys) (ds ++ es) := by
  refine ⟨by simp [r.1, t.1], fun i y e h1 h2 => ?_⟩
  by_cases hi : i < xs.length
  · rw [List.getElem?_append_left hi] at h1
    rw [List.getElem?_append_left (by rw [← r.1]; exact hi)] at h2
    exact r.2 i y e h1 h2
  · rw [List.getElem?_append_right (by omega)] at h1
    rw [List.getElem?_append_right (by rw [← r.1]; omega)] at h2
    rw [r.1] at h1
    exact t.2 _ y e h1 h2
theorem Reps.get {H : Hp} {xs : List V} {ds : List D} (r : Reps H xs ds) {i : Nat} {d : D} (h : ds[i]? = some d) : ∃ x, xs[i]? = some x ∧ Rep H x d := by
  have hi : i < ds.length := (List.getElem?_eq_some_iff.mp h).1
  have hx : i < xs.length := by rw [r.1]; exact hi
  exact ⟨xs[i], List.getElem?_eq_getElem hx, r.2 i _ _ (List.getElem?_eq_getElem hx) h⟩
theorem Reps.getV {H : Hp} {xs : List V} {ds : List D} (r : Reps H xs ds) {i : Nat} {x : V} (h : xs[i]? = some x) : ∃ d, ds[i]? = some d ∧ Rep H x d := by
  have hi : i < xs.length := (List.getElem?_eq_some_iff.mp h).1
  have hx : i < ds.length := by rw [← r.1]; exact hi
  exact ⟨ds[i], List.getElem?_eq_getElem hx, r.2 i _ _ h (List.getElem?_eq_getElem hx)⟩
def isTy (n : String) : D → Bool
  | .int _ => n == "int"
  | .str _ => n == "str"
  | .bl _ => n == "bool" || n == "int"
  | .non => false
  | .oth => false
  | .tup _ => n == "tuple"
def rIsD (K : PySem.W.Frag) : List V → Hp → VK → Prop := fun xs H Q => ∃ (v : V) (d : D) (n : String), xs = [v, .ty n] ∧ (n = "int" ∨ n = "str" ∨ n = "bool" ∨ n = "tuple") ∧ Rep H v d ∧ Q (.bl (isTy n d)) H
theorem call_isD {X : Cx} : CallR X (.builtin "isinstance") (rIsD X.K) := by
  (intro pins s σ H xs us Q I r h)
  obtain ⟨v, d, n, rfl, hn, hr, q⟩ := h
  have go : ∀ (T : String), TyX X.K H v (.type T) → kitB T n = some (isTy n d) → wpAny (model X.prog X.w) X.A (call (.builtin "isinstance") us) (EP X pins σ Q) X.xe s := fun T ty e =>
    call_isi pins s σ H _ us Q I r ⟨v, .ty n, .type T, .type n, isTy n d, rfl, .ty n, ty, kit_ty e, q⟩
  cases hr with
  | int i => exact go "int" (.base (.int i)) (by rcases hn with rfl | rfl | rfl | rfl <;> first | exact (show kitB _ _ = some true by decide +kernel) | exact (show kitB _ _ = some false by decide +kernel))
  | str l _ => exact go "str" (.base (.str _)) (by rcases hn with rfl | rfl | rfl | rfl <;> first | exact (show kitB _ _ = some true by decide +kernel) | exact (show kitB _ _ = some false by decide +kernel))
  | bl b => exact go "bool" (.base (.bl b)) (by rcases hn with rfl | rfl | rfl | rfl <;> first | exact (show kitB _ _ = some true by decide +kernel) | exact (show kitB _ _ = some false by decide +kernel))
  | non => exact go "NoneType" (.base .non) (by rcases hn with rfl | rfl | rfl | rfl <;> first | exact (show kitB _ _ = some true by decide +kernel) | exact (show kitB _ _ = some false by decide +kernel))
  | lst h => exact go "list" (.base (.lst h)) (by rcases hn with rfl | rfl | rfl | rfl <;> first | exact (show kitB _ _ = some true by decide +kernel) | exact (show kitB _ _ = some false by decide +kernel))
  | dic h => exact go "dict" (.base (.dK h)) (by rcases hn with rfl | rfl | rfl | rfl <;> first | exact (show kitB _ _ = some true by decide +kernel) | exact (show kitB _ _ = some false by decide +kernel))
  | tup h l f => exact go "tuple" (.base (.tup h)) (by rcases hn with rfl | rfl | rfl | rfl <;> first | exact (show kitB _ _ = some true by decide +kernel) | exact (show kitB _ _ = some false by decide +kernel))
end K6
namespace K6
open L2 PySem PySem.Spec PyProof.Rows
theorem _root_.L2.Same.new {H H' : Hp} {p : Addr} {o : HO} (s : Same H H') (h : H' p = none) : Same H (upd H' p o) := fun b u q => by
  have e := s b u q
  rw [upd_ne (ne_of_none e h)]
  exact e
theorem _root_.L2.Same.put {H H' : Hp} {p : Addr} {o : HO} (s : Same H H') (h : H p = none) : Same H (upd H' p o) := fun b u q => by
  rw [upd_ne (ne_of_none q h)]
  exact s b u q
theorem sizes {n : Nat} (h : n ≤ 1000000) : n < sizeLine := Nat.lt_of_le_of_lt h (by decide)
theorem sizes' {n : Nat} (h : n ≤ 1000000) : n ≤ sizeLine := Nat.le_of_lt (sizes h)
theorem lsz {n : Nat} (h : Nat.ble n 1000000 = true := by rfl) : n ≤ sizeLine := sizes' (Nat.le_of_ble_eq_true h)
theorem lsz1 {n : Nat} (h : Nat.ble n 1000000 = true := by rfl) : n < sizeLine := sizes (Nat.le_of_ble_eq_true h)
theorem S_len (l : List Nat) : (S l).length = l.length := SX.S_len l
theorem S_cps (l : List Nat) : (S l).cps.toList = l := rfl
theorem up_ne {H : Hp} {a b : Addr} {o u : HO} (h : H a = some o) (n : H b = none) : upd H b u a = some o := by rw [upd_ne (ne_of_none h n)]; exact h
theorem take_map_succ {α β : Type} {l : List α} {i : Nat} {c : α} (f : α → β) (h : l[i]? = some c) : (l.take i).map f ++ [f c] = (l.take (i + 1)).map f := by
  rw [List.take_succ, h]
  simp
end K6
namespace K6
open L2 PySem PySem.Spec PyProof.Rows
theorem _root_.L2.Same.free_of {H H1 H2 : Hp} {L : Addr} (_ : Same H H2) (s : Same H H1) (h : H1 L = none) : H L = none := s.free h
end K6
namespace K6
open L2 PySem PySem.Spec PyProof.Rows
theorem sqt {K : PySem.W.Frag} {H : Hp} {a : Addr} {xs : List V} (h : H a = some (.tup xs)) : SqT K H a xs := .inl (.inl h)
theorem sql {K : PySem.W.Frag} {H : Hp} {a : Addr} {xs : List V} (h : H a = some (.lst xs)) : SqL K H a xs := .inl (.inl h)
end K6
set_option maxHeartbeats 8000000
namespace K6
open L2 PySem PySem.Spec PyProof.Rows
def excC (K : PySem.W.Frag) (j : Nat) : Addr := He.ga K ((["BadThing", "BadGenerator", "BadText", "BadTape", "BadTable", "BadQuestion", "TooMany", "NeverComes"] : List Str).getD j "NeverComes")
def oexB (K : PySem.W.Frag) (C : Addr) : Bool := match K.lookup C with
  | some ⟨.type t, _, .cls cd, sl⟩ => decide (t = "type") && (match cd.mro, sl.toList with
    | .ref b :: bm, [_, _, _, _, some (.builtin n), _] => decide (b = C) && (decide (n = "ValueError.__new__") && (cd.hasDict && (!cd.hasDel && HandSPX.refsVE bm)))
    | _, _ => false) && (He.eqO (PySem.W.findIn K (.ref C) "__setattr__") (some (some (.builtin "object.__setattr__"))) && (decide (PySem.W.subIn K (.ref C) (.type "BaseException") = some true) && (decide (PySem.W.typeIn K (.ref C) = some (.type "type")) && PySem.W.keepIn K (.ref C))))
  | _ => false
def vVB (K : PySem.W.Frag) : Bool := match PySem.W.findCls K (.type "ValueError") (.type "type") "__init__" with
  | some (.val (.builtin b)) => decide (b = "ValueError.__init__")
  | _ => false
def xscB (K : PySem.W.Frag) (C : Addr) : Bool := (PySem.W.clsIn K C).isSome && (He.eqO (PySem.W.findIn K (.ref C) "__getattribute__") (some (some (.builtin "BaseException.__getattribute__"))) && (He.eqO (PySem.W.findIn K (.ref C) "__getattr__") (some none) && (decide (PySem.W.subIn K (.ref C) (.type "BaseException") = some true) &&
  (PySem.W.hasDictIn K C && (He.eqO (PySem.W.findIn K (.ref C) "__class__") (some (some (.builtin "object.__class__"))) && (He.eqO (PySem.W.specialIn K (.builtin "object.__class__") "__get__") (some (some (.builtin "getset_descriptor.__get__"))) && (decide (PySem.W.takesIn K (.builtin "object.__class__") = some true) && decide (PySem.W.mroIn K C (.type "object") = some true))))))))
def noLst (K : PySem.W.Frag) : Bool := K.all fun p => !decide (p.2.cls = .type "list")
def dR0 : He.Defn := ("_law_thing_right", none)
def dR1 : He.Defn := ("_law_generator_right", none)
def lensD : List (Str × He.Dv) := [("just", .int 2), ("some", .int 2), ("from", .int 3), ("mix", .int 2), ("all", .int 2), ("row", .int 4), ("turn", .int 3), ("keep", .int 4), ("let", .int 4), ("var", .int 2), ("upto", .int 2), ("times", .int 3), ("grow", .int 4), ("again", .int 1)]
def exs0 : List (PySem.W.Frag → Bool) := [fun K => oexB K (excC K 0),
  fun K => xscB K (excC K 0),
  fun K => decide (PySem.W.kitOne K (.ref (excC K 0)) (.ref (excC K 0)) = some true),
  fun K => decide (PySem.W.exmOne K (.ref (excC K 0)) (.ref (excC K 0)) = some true),
  fun K => decide (PySem.W.kitOne K (.ref (excC K 0)) (.ref (excC K 1)) = some false),
  fun K => decide (PySem.W.exmOne K (.ref (excC K 0)) (.ref (excC K 1)) = some false),
  fun K => decide (PySem.W.kitOne K (.ref (excC K 0)) (.ref (excC K 2)) = some false),
  fun K => decide (PySem.W.exmOne K (.ref (excC K 0)) (.ref (excC K 2)) = some false),
  fun K => decide (PySem.W.kitOne K (.ref (excC K 0)) (.ref (excC K 3)) = some false),
  fun K => decide (PySem.W.exmOne K (.ref (excC K 0)) (.ref (excC K 3)) = some false),
  fun K => decide (PySem.W.kitOne K (.ref (excC K 0)) (.ref (excC K 4)) = some false),
  fun K => decide (PySem.W.exmOne K (.ref (excC K 0)) (.ref (excC K 4)) = some false),
  fun K => decide (PySem.W.kitOne K (.ref (excC K 0)) (.ref (excC K 5)) = some false),
  fun K => decide (PySem.W.exmOne K (.ref (excC K 0)) (.ref (excC K 5)) = some false),
  fun K => decide (PySem.W.kitOne K (.ref (excC K 0)) (.ref (excC K 6)) = some false)]
def exs1 : List (PySem.W.Frag → Bool) := [fun K => decide (PySem.W.exmOne K (.ref (excC K 0)) (.ref (excC K 6)) = some false),
  fun K => decide (PySem.W.kitOne K (.ref (excC K 0)) (.ref (excC K 7)) = some false),
  fun K => decide (PySem.W.exmOne K (.ref (excC K 0)) (.ref (excC K 7)) = some false),
  fun K => decide (PySem.W.kitOne K (.ref (excC K 0)) (.type "OverflowError") = some false),
  fun K => decide (PySem.W.kitOne K (.ref (excC K 0)) (.type "LookupError") = some false),
  fun K => decide (PySem.W.kitOne K (.ref (excC K 0)) (.type "ValueError") = some true),
  fun K => oexB K (excC K 1),
  fun K => xscB K (excC K 1),
  fun K => decide (PySem.W.kitOne K (.ref (excC K 1)) (.ref (excC K 0)) = some false),
  fun K => decide (PySem.W.exmOne K (.ref (excC K 1)) (.ref (excC K 0)) = some false),
  fun K => decide (PySem.W.kitOne K (.ref (excC K 1)) (.ref (excC K 1)) = some true),
  fun K => decide (PySem.W.exmOne K (.ref (excC K 1)) (.ref (excC K 1)) = some true),
  fun K => decide (PySem.W.kitOne K (.ref (excC K 1)) (.ref (excC K 2)) = some false),
  fun K => decide (PySem.W.exmOne K (.ref (excC K 1)) (.ref (excC K 2)) = some false),
  fun K => decide (PySem.W.kitOne K (.ref (excC K 1)) (.ref (excC K 3)) = some false)]
def exs2 : List (PySem.W.Frag → Bool) := [fun K => decide (PySem.W.exmOne K (.ref (excC K 1)) (.ref (excC K 3)) = some false),
  fun K => decide (PySem.W.kitOne K (.ref (excC K 1)) (.ref (excC K 4)) = some false),
  fun K => decide (PySem.W.exmOne K (.ref (excC K 1)) (.ref (excC K 4)) = some false),
  fun K => decide (PySem.W.kitOne K (.ref (excC K 1)) (.ref (excC K 5)) = some false),
  fun K => decide (PySem.W.exmOne K (.ref (excC K 1)) (.ref (excC K 5)) = some false),
  fun K => decide (PySem.W.kitOne K (.ref (excC K 1)) (.ref (excC K 6)) = some false),
  fun K => decide (PySem.W.exmOne K (.ref (excC K 1)) (.ref (excC K 6)) = some false),
  fun K => decide (PySem.W.kitOne K (.ref (excC K 1)) (.ref (excC K 7)) = some false),
  fun K => decide (PySem.W.exmOne K (.ref (excC K 1)) (.ref (excC K 7)) = some false),
  fun K => decide (PySem.W.kitOne K (.ref (excC K 1)) (.type "OverflowError") = some false),
  fun K => decide (PySem.W.kitOne K (.ref (excC K 1)) (.type "LookupError") = some false),
  fun K => decide (PySem.W.kitOne K (.ref (excC K 1)) (.type "ValueError") = some true),
  vVB,
  noLst,
  fun K => !decide ((He.cT K dR0).2 = (He.cT K dR1).2)]
def exs3 : List (PySem.W.Frag → Bool) := [fun K => He.valsB K (He.ga K "LENGTHS") lensD]
def exs : List (PySem.W.Frag → Bool) := exs0 ++ exs1 ++ exs2 ++ exs3
def exA (K : PySem.W.Frag) : Bool := exs.all fun f => f K
def fa0 : List He.Fa := [.free "isinstance", .free "int", .free "bool", .free "str", .free "tuple", .free "list", .free "len", .free "all", .free "reversed", .free "range", .free "min", .free "abs", .free "sum", .free "enumerate", .free "repr", .free "ValueError", .free "OverflowError", .free "LookupError", .int "MOST_LETTERS" 8, .int "MOST_OPENED" 40, .int "MOST_THINGS" 300, .int "MOST_DEEP" 5, .int "MOST_FIGURES_things" 60, .int "MOST_SIGNS" 30000, .int "MOST_PARTS" 24, .int "MOST_WITHIN" 5, .int "MOST_OWN" 60, .int "MOST_SPAN" 99, .int "MOST_WEIGHT" 9, .int "MOST_SOME" 9]
def fa1 : List He.Fa := [.int "MOST_JOINED" 6, .int "MOST_MORE" 3, .int "MOST_FIGURES_gentexts" 30, .str "SMALL" "abcdefghijklmnopqrstuvwxyz", .str "FIGURES" "0123456789", .str "SIGNS" "()[]", .str "RUN" "run", .str "NAME" "name", .str "NUMBER" "number", .str "SIGN" "sign", .str "ODD" "odd", .glo "is_number", .glo "is_name", .glo "is_form", .glo "first_bad", .glo "_law_is_number", .glo "_law_is_name", .glo "is_among", .glo "_law_among", .glo "are_many", .glo "_law_are_many", .glo "is_bound", .glo "_law_bad_thing", .glo "is_own", .glo "_law_is_own", .glo "is_span", .glo "are_pairs", .glo "has_leaf_form", .glo "has_form", .glo "own_parts"]
def fa2 : List He.Fa := [.glo "stands", .glo "scoped_parts", .meth "BadThing" "__init__", .meth "BadGenerator" "__init__", .glo "walked", .glo "need_thing", .glo "need_generator", .glo "_law_own", .glo "_law_has_form", .glo "_law_place", .glo "spread", .glo "_law_spread", .glo "thing_words", .glo "_law_thing_words", .glo "thing_text", .glo "inner_words", .glo "generator_words", .glo "generator_text", .glo "_law_words", .glo "run_from", .glo "word_at", .glo "words_of", .glo "need_words", .glo "number_in", .glo "thing_in", .meth "WordReader" "next_sort", .meth "WordReader" "next_text", .meth "WordReader" "goes_past", .meth "WordReader" "a_number", .meth "WordReader" "a_name"]
def fa3 : List He.Fa := [.meth "WordReader" "one_word", .meth "WordReader" "a_thing", .meth "WordReader" "inner", .meth "WordReader" "things", .meth "WordReader" "inners", .meth "WordReader" "pairs", .meth "WordReader" "rest_of", .meth "WordReader" "generator", .meth "WordReader" "__init__", .glo "generator_at", .glo "read_generator", .glo "read_thing", .glo "_law_mixed", .glo "_law_draw", .glo "_law_one", .glo "_law_word", .glo "_law_number", .glo "_law_thing", .glo "_law_many", .glo "_law_small", .glo "_law_begun", .glo "_law_rooms", .glo "_law_leaf", .glo "_law_generator", .glo "_law_bent", .glo "_law_loose", .glo "_law_thing_right", .glo "_law_refused", .glo "_law_generator_right", .glo "law"]
def fa4 : List He.Fa := [.glo "BadThing", .glo "BadGenerator", .glo "BadText", .glo "BadTape", .glo "BadTable", .glo "BadQuestion", .glo "TooMany", .glo "NeverComes", .glo "WordReader", .glo "TURNS", .glo "TESTS", .glo "LENGTHS", .cls "WordReader", .noat "WordReader" "words", .noat "WordReader" "at", .noat "WordReader" "opened", .noat "BadThing" "place", .noat "BadGenerator" "place", .mkr "WordReader"]
def fa : List He.Fa := fa0 ++ fa1 ++ fa2 ++ fa3 ++ fa4
def dd0 : He.DefD := ⟨("is_number", none), "is_number", "is_number", defArgs (top 31), defBody (top 31), defScope (top 31), [], []⟩
def dd1 : He.DefD := ⟨("is_name", none), "is_name", "is_name", defArgs (top 20), defBody (top 20), defScope (top 20), [], []⟩
def dd2 : He.DefD := ⟨("is_form", none), "is_form", "is_form", defArgs (top 32), defBody (top 32), defScope (top 32), [], []⟩
def dd3 : He.DefD := ⟨("first_bad", none), "first_bad", "first_bad", defArgs (top 33), defBody (top 33), defScope (top 33), [], []⟩
def dd4 : He.DefD := ⟨("_law_is_number", none), "_law_is_number", "_law_is_number", defArgs (top 106), defBody (top 106), defScope (top 106), [], []⟩
def dd5 : He.DefD := ⟨("_law_is_name", none), "_law_is_name", "_law_is_name", defArgs (top 105), defBody (top 105), defScope (top 105), [], []⟩
def dd6 : He.DefD := ⟨("is_among", none), "is_among", "is_among", defArgs (top 70), defBody (top 70), defScope (top 70), [], []⟩
def dd7 : He.DefD := ⟨("_law_among", none), "_law_among", "_law_among", defArgs (top 108), defBody (top 108), defScope (top 108), [], []⟩
def dd8 : He.DefD := ⟨("are_many", none), "are_many", "are_many", defArgs (top 73), defBody (top 73), defScope (top 73), [], []⟩
def dd9 : He.DefD := ⟨("_law_are_many", none), "_law_are_many", "_law_are_many", defArgs (top 109), defBody (top 109), defScope (top 109), [], []⟩
def dd10 : He.DefD := ⟨("is_bound", none), "is_bound", "is_bound", defArgs (top 71), defBody (top 71), defScope (top 71), [], []⟩
def dd11 : He.DefD := ⟨("_law_bad_thing", none), "_law_bad_thing", "_law_bad_thing", defArgs (top 107), defBody (top 107), defScope (top 107), [], []⟩
def dd12 : He.DefD := ⟨("is_own", none), "is_own", "is_own", defArgs (top 72), defBody (top 72), defScope (top 72), [], []⟩
def dd13 : He.DefD := ⟨("_law_is_own", none), "_law_is_own", "_law_is_own", defArgs (top 110), defBody (top 110), defScope (top 110), [], []⟩
def dd14 : He.DefD := ⟨("is_span", none), "is_span", "is_span", defArgs (top 74), defBody (top 74), defScope (top 74), [], []⟩
def dd15 : He.DefD := ⟨("are_pairs", none), "are_pairs", "are_pairs", defArgs (top 75), defBody (top 75), defScope (top 75), [], []⟩
def dd16 : He.DefD := ⟨("has_leaf_form", none), "has_leaf_form", "has_leaf_form", defArgs (top 76), defBody (top 76), defScope (top 76), [], []⟩
def dd17 : He.DefD := ⟨("has_form", none), "has_form", "has_form", defArgs (top 77), defBody (top 77), defScope (top 77), [], []⟩
def dd18 : He.DefD := ⟨("own_parts", none), "own_parts", "own_parts", defArgs (top 78), defBody (top 78), defScope (top 78), [], []⟩
def dd19 : He.DefD := ⟨("stands", none), "stands", "stands", defArgs (top 80), defBody (top 80), defScope (top 80), [], []⟩
def dd20 : He.DefD := ⟨("scoped_parts", none), "scoped_parts", "scoped_parts", defArgs (top 79), defBody (top 79), defScope (top 79), [], []⟩
def dd21 : He.DefD := ⟨("BadThing", some "__init__"), "__init__", "BadThing.__init__", defArgs (inClass (top 1) 0), defBody (inClass (top 1) 0), defScope (inClass (top 1) 0), [], []⟩
def dd22 : He.DefD := ⟨("BadGenerator", some "__init__"), "__init__", "BadGenerator.__init__", defArgs (inClass (top 2) 0), defBody (inClass (top 2) 0), defScope (inClass (top 2) 0), [], []⟩
def dd23 : He.DefD := ⟨("walked", none), "walked", "walked", defArgs (top 81), defBody (top 81), defScope (top 81), [], []⟩
def dd24 : He.DefD := ⟨("need_thing", none), "need_thing", "need_thing", defArgs (top 34), defBody (top 34), defScope (top 34), [], []⟩
def dd25 : He.DefD := ⟨("need_generator", none), "need_generator", "need_generator", defArgs (top 82), defBody (top 82), defScope (top 82), [], []⟩
def dd26 : He.DefD := ⟨("_law_own", none), "_law_own", "_law_own", defArgs (top 104), defBody (top 104), defScope (top 104), [], []⟩
def dd27 : He.DefD := ⟨("_law_has_form", none), "_law_has_form", "_law_has_form", defArgs (top 111), defBody (top 111), defScope (top 111), [], []⟩
def dd28 : He.DefD := ⟨("_law_place", none), "_law_place", "_law_place", defArgs (top 112), defBody (top 112), defScope (top 112), [], []⟩
def dd29 : He.DefD := ⟨("spread", none), "spread", "spread", defArgs (top 24), defBody (top 24), defScope (top 24), [], []⟩
def dd30 : He.DefD := ⟨("_law_spread", none), "_law_spread", "_law_spread", defArgs (top 116), defBody (top 116), defScope (top 116), [], []⟩
def dd31 : He.DefD := ⟨("thing_words", none), "thing_words", "thing_words", defArgs (top 55), defBody (top 55), defScope (top 55), [], []⟩
def dd32 : He.DefD := ⟨("_law_thing_words", none), "_law_thing_words", "_law_thing_words", defArgs (top 114), defBody (top 114), defScope (top 114), [], []⟩
def dd33 : He.DefD := ⟨("thing_text", none), "thing_text", "thing_text", defArgs (top 56), defBody (top 56), defScope (top 56), [], []⟩
def dd34 : He.DefD := ⟨("inner_words", none), "inner_words", "inner_words", defArgs (top 85), defBody (top 85), defScope (top 85), [], []⟩
def dd35 : He.DefD := ⟨("generator_words", none), "generator_words", "generator_words", defArgs (top 86), defBody (top 86), defScope (top 86), [], []⟩
def dd36 : He.DefD := ⟨("generator_text", none), "generator_text", "generator_text", defArgs (top 87), defBody (top 87), defScope (top 87), [], []⟩
def dd37 : He.DefD := ⟨("_law_words", none), "_law_words", "_law_words", defArgs (top 115), defBody (top 115), defScope (top 115), [], []⟩
def dd38 : He.DefD := ⟨("run_from", none), "run_from", "run_from", defArgs (top 21), defBody (top 21), defScope (top 21), [], []⟩
def dd39 : He.DefD := ⟨("word_at", none), "word_at", "word_at", defArgs (top 22), defBody (top 22), defScope (top 22), [], []⟩
def dd40 : He.DefD := ⟨("words_of", none), "words_of", "words_of", defArgs (top 23), defBody (top 23), defScope (top 23), [.str "()[]"], []⟩
def dd41 : He.DefD := ⟨("need_words", none), "need_words", "need_words", defArgs (top 58), defBody (top 58), defScope (top 58), [], []⟩
def dd42 : He.DefD := ⟨("number_in", none), "number_in", "number_in", defArgs (top 25), defBody (top 25), defScope (top 25), [], []⟩
def dd43 : He.DefD := ⟨("thing_in", none), "thing_in", "thing_in", defArgs (top 57), defBody (top 57), defScope (top 57), [], []⟩
def dd44 : He.DefD := ⟨("WordReader", some "next_sort"), "next_sort", "WordReader.next_sort", defArgs (inClass (top 88) 1), defBody (inClass (top 88) 1), defScope (inClass (top 88) 1), [], []⟩
def dd45 : He.DefD := ⟨("WordReader", some "next_text"), "next_text", "WordReader.next_text", defArgs (inClass (top 88) 2), defBody (inClass (top 88) 2), defScope (inClass (top 88) 2), [], []⟩
def dd46 : He.DefD := ⟨("WordReader", some "goes_past"), "goes_past", "WordReader.goes_past", defArgs (inClass (top 88) 3), defBody (inClass (top 88) 3), defScope (inClass (top 88) 3), [], []⟩
def dd47 : He.DefD := ⟨("WordReader", some "a_number"), "a_number", "WordReader.a_number", defArgs (inClass (top 88) 4), defBody (inClass (top 88) 4), defScope (inClass (top 88) 4), [], []⟩
def dd48 : He.DefD := ⟨("WordReader", some "a_name"), "a_name", "WordReader.a_name", defArgs (inClass (top 88) 5), defBody (inClass (top 88) 5), defScope (inClass (top 88) 5), [], []⟩
def dd49 : He.DefD := ⟨("WordReader", some "one_word"), "one_word", "WordReader.one_word", defArgs (inClass (top 88) 6), defBody (inClass (top 88) 6), defScope (inClass (top 88) 6), [], []⟩
def dd50 : He.DefD := ⟨("WordReader", some "a_thing"), "a_thing", "WordReader.a_thing", defArgs (inClass (top 88) 7), defBody (inClass (top 88) 7), defScope (inClass (top 88) 7), [], []⟩
def dd51 : He.DefD := ⟨("WordReader", some "inner"), "inner", "WordReader.inner", defArgs (inClass (top 88) 8), defBody (inClass (top 88) 8), defScope (inClass (top 88) 8), [], []⟩
def dd52 : He.DefD := ⟨("WordReader", some "things"), "things", "WordReader.things", defArgs (inClass (top 88) 9), defBody (inClass (top 88) 9), defScope (inClass (top 88) 9), [], []⟩
def dd53 : He.DefD := ⟨("WordReader", some "inners"), "inners", "WordReader.inners", defArgs (inClass (top 88) 11), defBody (inClass (top 88) 11), defScope (inClass (top 88) 11), [], []⟩
def dd54 : He.DefD := ⟨("WordReader", some "pairs"), "pairs", "WordReader.pairs", defArgs (inClass (top 88) 10), defBody (inClass (top 88) 10), defScope (inClass (top 88) 10), [], []⟩
def dd55 : He.DefD := ⟨("WordReader", some "rest_of"), "rest_of", "WordReader.rest_of", defArgs (inClass (top 88) 12), defBody (inClass (top 88) 12), defScope (inClass (top 88) 12), [], []⟩
def dd56 : He.DefD := ⟨("WordReader", some "generator"), "generator", "WordReader.generator", defArgs (inClass (top 88) 13), defBody (inClass (top 88) 13), defScope (inClass (top 88) 13), [], []⟩
def dd57 : He.DefD := ⟨("WordReader", some "__init__"), "__init__", "WordReader.__init__", defArgs (inClass (top 88) 0), defBody (inClass (top 88) 0), defScope (inClass (top 88) 0), [], []⟩
def dd58 : He.DefD := ⟨("generator_at", none), "generator_at", "generator_at", defArgs (top 89), defBody (top 89), defScope (top 89), [], []⟩
def dd59 : He.DefD := ⟨("read_generator", none), "read_generator", "read_generator", defArgs (top 90), defBody (top 90), defScope (top 90), [], []⟩
def dd60 : He.DefD := ⟨("read_thing", none), "read_thing", "read_thing", defArgs (top 59), defBody (top 59), defScope (top 59), [], []⟩
def dd61 : He.DefD := ⟨("_law_mixed", none), "_law_mixed", "_law_mixed", defArgs (top 92), defBody (top 92), defScope (top 92), [], []⟩
def dd62 : He.DefD := ⟨("_law_draw", none), "_law_draw", "_law_draw", defArgs (top 94), defBody (top 94), defScope (top 94), [], []⟩
def dd63 : He.DefD := ⟨("_law_one", none), "_law_one", "_law_one", defArgs (top 95), defBody (top 95), defScope (top 95), [], []⟩
def dd64 : He.DefD := ⟨("_law_word", none), "_law_word", "_law_word", defArgs (top 96), defBody (top 96), defScope (top 96), [], []⟩
def dd65 : He.DefD := ⟨("_law_number", none), "_law_number", "_law_number", defArgs (top 97), defBody (top 97), defScope (top 97), [], []⟩
def dd66 : He.DefD := ⟨("_law_thing", none), "_law_thing", "_law_thing", defArgs (top 98), defBody (top 98), defScope (top 98), [], []⟩
def dd67 : He.DefD := ⟨("_law_many", none), "_law_many", "_law_many", defArgs (top 99), defBody (top 99), defScope (top 99), [], []⟩
def dd68 : He.DefD := ⟨("_law_small", none), "_law_small", "_law_small", defArgs (top 100), defBody (top 100), defScope (top 100), [], []⟩
def dd69 : He.DefD := ⟨("_law_begun", none), "_law_begun", "_law_begun", defArgs (top 93), defBody (top 93), defScope (top 93), [], []⟩
def dd70 : He.DefD := ⟨("_law_rooms", none), "_law_rooms", "_law_rooms", defArgs (top 102), defBody (top 102), defScope (top 102), [], []⟩
def dd71 : He.DefD := ⟨("_law_leaf", none), "_law_leaf", "_law_leaf", defArgs (top 101), defBody (top 101), defScope (top 101), [], []⟩
def dd72 : He.DefD := ⟨("_law_generator", none), "_law_generator", "_law_generator", defArgs (top 103), defBody (top 103), defScope (top 103), [], []⟩
def dd73 : He.DefD := ⟨("_law_bent", none), "_law_bent", "_law_bent", defArgs (top 113), defBody (top 113), defScope (top 113), [], []⟩
def dd74 : He.DefD := ⟨("_law_loose", none), "_law_loose", "_law_loose", defArgs (top 118), defBody (top 118), defScope (top 118), [], []⟩
def dd75 : He.DefD := ⟨("_law_thing_right", none), "_law_thing_right", "_law_thing_right", defArgs (top 119), defBody (top 119), defScope (top 119), [], []⟩
def dd76 : He.DefD := ⟨("_law_refused", none), "_law_refused", "_law_refused", defArgs (top 117), defBody (top 117), defScope (top 117), [], []⟩
def dd77 : He.DefD := ⟨("_law_generator_right", none), "_law_generator_right", "_law_generator_right", defArgs (top 120), defBody (top 120), defScope (top 120), [], []⟩
def dd78 : He.DefD := ⟨("law", none), "law", "law", defArgs (top 121), defBody (top 121), defScope (top 121), [], []⟩
def fn0 : List He.DefD := [dd0, dd1, dd2, dd3, dd4, dd5, dd6, dd7, dd8, dd9, dd10, dd11, dd12, dd13, dd14, dd15, dd16, dd17, dd18, dd19, dd20, dd21, dd22, dd23, dd24, dd25, dd26, dd27, dd28, dd29]
def fn1 : List He.DefD := [dd30, dd31, dd32, dd33, dd34, dd35, dd36, dd37, dd38, dd39, dd40, dd41, dd42, dd43, dd44, dd45, dd46, dd47, dd48, dd49, dd50, dd51, dd52, dd53, dd54, dd55, dd56, dd57, dd58, dd59]
def fn2 : List He.DefD := [dd60, dd61, dd62, dd63, dd64, dd65, dd66, dd67, dd68, dd69, dd70, dd71, dd72, dd73, dd74, dd75, dd76, dd77, dd78]
def fn : List He.DefD := fn0 ++ fn1 ++ fn2
def tsL : List He.Tab := [(fun K => He.ga K "TURNS", (["neg", "double", "size", "total", "back", "sorted", "unlike", "head"] : List String).map Str.ofString), (fun K => He.ga K "TESTS", (["even", "odd", "above", "name", "full", "rising", "unlike"] : List String).map Str.ofString), (fun K => He.ga K "LENGTHS", lensD.map (·.1))]
def tfL : List He.Defn := [dR0, dR1]
end K6
set_option maxHeartbeats 0
namespace K6H
open PyProof.Rows PySem PySem.W PySem.Calls
abbrev R : OpenRow := OpenLaw.row PySem.Challenge.rw_drawlab_k06_whole_texts_there_and_back
abbrev qv : Program := view R.prog [121]
def names0 : List PySem.Str := ["BadThing", "BadGenerator", "BadText", "BadTape", "BadTable", "BadQuestion", "TooMany", "NeverComes", "SMALL", "FIGURES", "SIGNS", "RUN", "NAME", "NUMBER", "SIGN", "ODD", "MOST_LETTERS", "MOST_OPENED", "is_name", "run_from", "word_at", "words_of", "spread", "number_in", "MOST_THINGS", "MOST_DEEP", "MOST_FIGURES_things", "MOST_SIGNS", "is_number", "is_form"]
def names1 : List PySem.Str := ["first_bad", "need_thing", "sort_of", "compared", "ordered", "first_ones", "neg_turn", "double_turn", "size_turn", "total_turn", "back_turn", "sorted_turn", "unlike_turn", "head_turn", "is_even", "is_odd", "is_above", "is_full", "is_rising", "is_unlike", "TURNS", "TESTS", "thing_words", "thing_text", "thing_in", "need_words", "read_thing", "MOST_PARTS", "MOST_WITHIN", "MOST_OWN"]
def names2 : List PySem.Str := ["MOST_SPAN", "MOST_WEIGHT", "MOST_SOME", "MOST_JOINED", "MOST_MORE", "LENGTHS", "is_among", "is_bound", "is_own", "are_many", "is_span", "are_pairs", "has_leaf_form", "has_form", "own_parts", "scoped_parts", "stands", "walked", "need_generator", "MOST_FIGURES_gentexts", "inner_words", "generator_words", "generator_text", "WordReader", "generator_at", "read_generator", "_law_mixed", "_law_begun", "_law_draw", "_law_one"]
def names3 : List PySem.Str := ["_law_word", "_law_number", "_law_thing", "_law_many", "_law_small", "_law_leaf", "_law_rooms", "_law_generator", "_law_own", "_law_is_name", "_law_is_number", "_law_bad_thing", "_law_among", "_law_are_many", "_law_is_own", "_law_has_form", "_law_place", "_law_bent", "_law_thing_words", "_law_words", "_law_spread", "_law_refused", "_law_loose", "_law_thing_right", "_law_generator_right"]
def names : List PySem.Str := names0 ++ names1 ++ names2 ++ names3
def near (o : Obj) : List Addr := match o.data with
  | .func fd => He.refV fd.code ++ He.refV fd.defaults
  | .cls cd => [cd.ns]
  | _ => []
def vals (o : Obj) : List Addr := match o.data with
  | .dict es _ => es.toList.flatMap fun e => He.refV e.val
  | _ => []
def over (g : Addr → Option Obj) (f : Obj → List Addr) (l : List Addr) : List Addr := l.flatMap fun a => match g a with
  | some o => f o
  | none => []
def asM (g : Addr → Option Obj) (l1 : List Addr) (l2 : List Addr) (l3 : List Addr) : List Addr := mainGlobals :: (l1 ++ (l2 ++ (l3 ++ over g near l3)))
def asN (g : Addr → Option Obj) : List Addr := (fun l1 => (fun l2 => asM g l1 l2 (over g vals l2)) (over g near l1)) (over g vals [mainGlobals])
def obsK (g : Addr → Option Obj) (K : Frag) : He.AlX := (He.obsT K6.fa K6.fn K6.tsL K, K6.exA K && He.tabsB g K6.tfL K)
def obsN (g : Addr → Option Obj) : He.AlX := obsK g (He.frT g (asN g))
theorem says_of {w : World} {h : Heap} (e : obsN h.get? = He.valX K6.fn K6.tsL w) : He.SaysX K6.fa K6.fn K6.tsL K6.tfL K6.exA w h (He.frT h.get? (asN h.get?)) := by
  obtain ⟨K, eK⟩ : ∃ K, K = He.frT h.get? (asN h.get?) := ⟨_, rfl⟩
  have e1 : He.obsT K6.fa K6.fn K6.tsL K = He.valT K6.fn K6.tsL w := by rw [eK]; exact congrArg Prod.fst e
  have e2 : (K6.exA K && He.tabsB h.get? K6.tfL K) = true := by rw [eK]; exact congrArg Prod.snd e
  rw [← eK]
  obtain ⟨h1, h2⟩ := He.ba e2
  have each : ∀ p ∈ K6.tfL, codeHdIn K (He.cT K p).1 (He.cT K p).2 = true ∧ ∃ o, h.get? (He.cT K p).2 = some o ∧ He.emptyTab o = true := by
    intro p hp
    obtain ⟨h3, h4⟩ := He.ba (List.all_eq_true.mp h2 p hp)
    refine ⟨h3, ?_⟩
    split at h4
    · rename_i o q; exact ⟨o, q, h4⟩
    · cases h4
  refine ⟨e1, h1, fun p hp => (each p hp).1, fun p hp => ?_, fun p hp => ?_⟩
  · obtain ⟨_, o, q, z⟩ := each p hp
    rw [eK] at q ⊢
    exact He.frT_none q z
  · obtain ⟨_, o, q, z⟩ := each p hp
    exact q.trans (congrArg some (He.emptyTab_eq z))
def hk : Hook where
  α := He.AlX
  obs := fun s => obsN s.heap.get?
  val := fun w => He.valX K6.fn K6.tsL w
  says := fun w h => ∃ K : Frag, K.In h ∧ He.SaysX K6.fa K6.fn K6.tsL K6.tfL K6.exA w h K
  of := fun _ _ e => ⟨_, He.frT_in, says_of e⟩
  keeps := fun _ _ _ z k => match z with
    | ⟨K, hK, c⟩ => ⟨K, Frag.In.keeps hK k, ⟨c.t, c.more, c.hd, c.out, fun p hp => k _ _ (c.empty p hp)⟩⟩
def ob (s : SharedT) : He.AlX := obsN (HandSHeadRun.getT s)
theorem ob_eq (s : SharedT) : ob s = hk.obs s.abs := congrArg obsN (funext (HandSHeadRun.getT_eq s))
abbrev PT : Type := Bool × List He.FnW
def KN (g : Addr → Option Obj) : Frag := He.frT g (asN g)
def part (fas : List He.Fa) (fns : List He.DefD) (es : List (Frag → Bool)) (K : Frag) : PT := (fas.all (fun f => f.ok K) && (fns.all (fun d => d.ok K) && es.all fun f => f K), fns.map fun d => He.fnW K d.at_)
def hkP (fas : List He.Fa) (fns : List He.DefD) (es : List (Frag → Bool)) : Hook := { α := PT, obs := fun s => part fas fns es (KN s.heap.get?), val := fun _ => (true, fns.map He.DefD.val), says := fun _ _ => True, of := fun _ _ _ => trivial, keeps := fun _ _ _ _ _ => trivial }
def obP (fas : List He.Fa) (fns : List He.DefD) (es : List (Frag → Bool)) (s : SharedT) : PT := part fas fns es (KN (HandSHeadRun.getT s))
abbrev TT : Type := List (Option (List (Option (PySem.Str × Int)))) × Bool
def tabs (g : Addr → Option Obj) (K : Frag) : TT := (K6.tsL.map (fun t => He.dicW K (t.1 K)), He.tabsB g K6.tfL K)
def faA : List He.Fa := K6.fa0 ++ (K6.fa1 ++ K6.fa2)
def faB : List He.Fa := K6.fa3 ++ K6.fa4
def exsA : List (Frag → Bool) := K6.exs0 ++ K6.exs1
def exsB : List (Frag → Bool) := K6.exs2 ++ K6.exs3
def fnB : List He.DefD := K6.fn1 ++ K6.fn2
def obtB (g : Addr → Option Obj) (K : Frag) : PT × TT := (part faB fnB exsB K, tabs g K)
def hkT : Hook := { α := PT × TT, obs := fun s => obtB s.heap.get? (KN s.heap.get?), val := fun w => ((true, fnB.map He.DefD.val), (K6.tsL.map (fun t => some (He.keysIn w.params t.2)), true)), says := fun _ _ => True, of := fun _ _ _ => trivial, keeps := fun _ _ _ _ _ => trivial }
def obT (s : SharedT) : PT × TT := obtB (HandSHeadRun.getT s) (KN (HandSHeadRun.getT s))
theorem rAF (w : World) : HandSHeadRun.RunEq R qv (hkP faA K6.fn0 exsA) (obP faA K6.fn0 exsA) 20000 names (w.withFollow "special-get-raises" false) := by
  intro os
  kernel_rfl
theorem rAT (w : World) : HandSHeadRun.RunEq R qv (hkP faA K6.fn0 exsA) (obP faA K6.fn0 exsA) 20000 names (w.withFollow "special-get-raises" true) := by
  intro os
  kernel_rfl
theorem rBF (w : World) : HandSHeadRun.RunEq R qv hkT obT 20000 names (w.withFollow "special-get-raises" false) := by
  intro os
  kernel_rfl
theorem rBT (w : World) : HandSHeadRun.RunEq R qv hkT obT 20000 names (w.withFollow "special-get-raises" true) := by
  intro os
  kernel_rfl
theorem qA (w : World) : HandSHeadRun.RunEq R qv (hkP faA K6.fn0 exsA) (obP faA K6.fn0 exsA) 20000 names w := byRow2 "special-get-raises" rAF rAT w
theorem qB (w : World) : HandSHeadRun.RunEq R qv hkT obT 20000 names w := byRow2 "special-get-raises" rBF rBT w
theorem part_ok {fas : List He.Fa} {fns : List He.DefD} {es : List (Frag → Bool)} {K : Frag} {v : PT} (h : part fas fns es K = v) (hv : v = (true, fns.map He.DefD.val)) : (fas.all fun f => f.ok K) = true ∧ (fns.all fun d => d.ok K) = true ∧ (es.all fun f => f K) = true ∧ (fns.map fun d => He.fnW K d.at_) = fns.map He.DefD.val := by
  rw [hv] at h
  have h1 : (fas.all (fun f => f.ok K) && (fns.all (fun d => d.ok K) && es.all fun f => f K)) = true := congrArg Prod.fst h
  obtain ⟨a, b⟩ := He.ba h1
  obtain ⟨b, c⟩ := He.ba b
  exact ⟨a, b, c, congrArg Prod.snd h⟩
theorem fa_eq : K6.fa = faA ++ faB := by
  unfold K6.fa faA faB
  simp only [List.append_assoc]
theorem exs_eq : K6.exs = exsA ++ exsB := by
  unfold K6.exs exsA exsB
  simp only [List.append_assoc]
theorem fn_eq : K6.fn = K6.fn0 ++ fnB := by
  unfold K6.fn fnB
  simp only [List.append_assoc]
theorem join {g : Addr → Option Obj} {w : World} (h0 : part faA K6.fn0 exsA (KN g) = (true, K6.fn0.map He.DefD.val)) (h1 : obtB g (KN g) = ((true, fnB.map He.DefD.val), (K6.tsL.map (fun t => some (He.keysIn w.params t.2)), true))) : obsN g = He.valX K6.fn K6.tsL w := by
  show obsK g (KN g) = _
  obtain ⟨K, eK⟩ : ∃ K, K = KN g := ⟨_, rfl⟩
  rw [← eK] at h0 h1 ⊢
  obtain ⟨a0, b0, c0, d0⟩ := part_ok h0 rfl
  have h2 : part faB fnB exsB K = (true, fnB.map He.DefD.val) := congrArg Prod.fst h1
  have h3 : tabs g K = (K6.tsL.map (fun t => some (He.keysIn w.params t.2)), true) := congrArg Prod.snd h1
  obtain ⟨a1, b1, c1, d1⟩ := part_ok h2 rfl
  have t1 : K6.tsL.map (fun t => He.dicW K (t.1 K)) = K6.tsL.map fun t => some (He.keysIn w.params t.2) := congrArg Prod.fst h3
  have t2 : He.tabsB g K6.tfL K = true := congrArg Prod.snd h3
  have fa : (K6.fa.all fun f => f.ok K) = true := by rw [fa_eq, List.all_append, a0, a1]; rfl
  have fb : (K6.fn.all fun d => d.ok K) = true := by rw [fn_eq, List.all_append, b0, b1]; rfl
  have fc : (K6.fn.map fun d => He.fnW K d.at_) = K6.fn.map He.DefD.val := by rw [fn_eq, List.map_append, List.map_append, d0, d1]
  have fe : K6.exA K = true := by
    unfold K6.exA
    rw [exs_eq, List.all_append, c0, c1]
    rfl
  show ((((K6.fa.all fun f => f.ok K) && K6.fn.all fun d => d.ok K, K6.fn.map fun d => He.fnW K d.at_), K6.tsL.map fun t => He.dicW K (t.1 K)), K6.exA K && He.tabsB g K6.tfL K) = _
  rw [fa, fb, fc, fe, t1, t2]
  rfl
theorem two {σ a b p q r : Type} {X : Option σ} {l : σ → a} {n : σ → b} {o1 : σ → p} {o2 : σ → q} {o : σ → r} {la : a} {nb : b} {v1 : p} {v2 : q} {v : r} (h1 : X.map (fun s => (l s, n s, o1 s)) = some (la, nb, v1)) (h2 : X.map (fun s => (l s, n s, o2 s)) = some (la, nb, v2)) (j : ∀ s, o1 s = v1 → o2 s = v2 → o s = v) : X.map (fun s => (l s, n s, o s)) = some (la, nb, v) := by
  cases X with
  | none => cases h1
  | some s =>
    have e1 : (l s, n s, o1 s) = (la, nb, v1) := Option.some.inj h1
    have e2 : (l s, n s, o2 s) = (la, nb, v2) := Option.some.inj h2
    injection e1 with x1 y1
    injection y1 with x2 x3
    injection e2 with _ y2
    injection y2 with _ x4
    show some (l s, n s, o s) = _
    rw [x1, x2, j s x3 x4]
theorem run (w : World) : HandSHeadRun.RunEq R qv hk ob 20000 names w := fun os => two (qA w os) (qB w os) fun _ e1 e2 => join e1 e2
end K6H
set_option maxHeartbeats 4000001
namespace K6
open L2 PySem PySem.Spec PyProof.Rows
def smallL : List Nat := [97, 98, 99, 100, 101, 102, 103, 104, 105, 106, 107, 108, 109, 110, 111, 112, 113, 114, 115, 116, 117, 118, 119, 120, 121, 122]
def isNm (s : List Nat) : Bool := decide (1 ≤ s.length) && (decide (s.length ≤ 8) && s.all fun c => decide (c ∈ smallL))
theorem mem_small {c : Nat} : c ∈ smallL ↔ 97 ≤ c ∧ c ≤ 122 := by
  constructor
  · intro h
    simp [smallL] at h
    omega
  · rintro ⟨h1, h2⟩
    obtain ⟨k, rfl⟩ : ∃ k, c = 97 + k := ⟨c - 97, by omega⟩
    have : k < 26 := by omega
    have key : ∀ k : Fin 26, 97 + k.val ∈ smallL := by decide
    exact key ⟨k, this⟩
def isNum : D → Bool
  | .int _ => true
  | _ => false
def isName : D → Bool
  | .str s => isNm s
  | _ => false
def isTup : D → Bool
  | .tup _ => true
  | _ => false
def gd (b : Int) : D → Bool
  | .int i => decide (-b < i) && decide (i < b)
  | .str s => isNm s
  | .tup _ => true
  | _ => false
theorem isTy_tuple (d : D) : isTy "tuple" d = isTup d := by cases d <;> simp [isTy, isTup]
theorem isTup_inv {d : D} (h : isTup d = true) : ∃ ds, d = .tup ds := by
  cases d <;> first | exact ⟨_, rfl⟩ | cases h
abbrev It := List Nat × D
def kids (most : Nat) (it : It) : List It := match it.2 with
  | .tup ds => ((List.range (min ds.length most)).map fun k => (it.1 ++ [k], ds.getD k .non))
  | _ => []
theorem kids_length (most : Nat) (way : List Nat) (ds : List D) : (kids most (way, .tup ds)).length = min ds.length most := by simp [kids]
theorem kids_rev_get {most i : Nat} {way : List Nat} {ds : List D} (h : i < min ds.length most) : (kids most (way, .tup ds)).reverse[i]? = some (way ++ [min ds.length most - 1 - i], ds.getD (min ds.length most - 1 - i) .non) := by
  rw [List.getElem?_reverse (by rw [kids_length]; exact h), kids_length]
  unfold kids
  rw [List.getElem?_map, List.getElem?_range (by omega)]
  rfl
def fb (good : D → Bool) (most : Nat) : Nat → List It → Option (List Nat)
  | _, [] => none
  | 0, it :: _ => some it.1
  | n + 1, it :: left => if 5 < it.1.length ∨ good it.2 = false then some it.1 else fb good most n (kids most it ++ left)
theorem fb_len {good : D → Bool} {most : Nat} : ∀ {n : Nat} {left : List It}, fb good most n left = none → left.length ≤ n
  | _, [], _ => Nat.zero_le _
  | 0, it :: left, h => by simp [fb] at h
  | n + 1, it :: left, h => by
    unfold fb at h
    split at h
    · cases h
    · have := fb_len h
      rw [List.length_append] at this
      rw [List.length_cons]
      omega
def tok (good : D → Bool) : Nat → D → Bool
  | 0, _ => false
  | n + 1, .tup ds => good (.tup ds) && ds.all (tok good n)
  | _ + 1, d => good d
def cnt : Nat → D → Nat
  | 0, _ => 1
  | n + 1, .tup ds => 1 + (ds.map (cnt n)).sum
  | _ + 1, _ => 1
theorem cnt_pos (n : Nat) (d : D) : 1 ≤ cnt n d := by
  cases n with
  | zero => exact Nat.le_refl _
  | succ n => cases d <;> simp [cnt] <;> omega
theorem cnt_ge (n : Nat) (ds : List D) : ds.length ≤ (ds.map (cnt n)).sum := by
  induction ds with
  | nil => simp
  | cons d r ih =>
    have := cnt_pos n d
    (simp only [List.length_cons, List.map_cons, List.sum_cons])
    omega
def icnt (it : It) : Nat := cnt (6 - it.1.length) it.2
theorem kids_eq {most : Nat} {way : List Nat} {ds : List D} (h : ds.length ≤ most) : kids most (way, .tup ds) = ds.zipIdx.map fun p => (way ++ [p.2], p.1) := by
  unfold kids
  simp only
  rw [Nat.min_eq_left h]
  apply List.ext_getElem
  · simp
  · intro i h1 h2
    simp at h1 h2 ⊢
    simp [List.getElem?_eq_getElem h1]
theorem kids_leaf {most : Nat} {it : It} (h : ∀ ds, it.2 ≠ .tup ds) : kids most it = [] := by
  unfold kids
  split
  · rename_i ds e
    exact absurd e (h ds)
  · rfl
theorem zip_map_fst {α β : Type} (ds : List α) (f : α → Nat → β) (k : Nat) (P : β → Prop) (h : ∀ b ∈ (ds.zipIdx k).map (fun p => f p.1 p.2), P b) : ∀ d ∈ ds, ∃ j, P (f d j) := by
  intro d hd
  obtain ⟨i, hi, e⟩ := List.mem_iff_getElem.mp hd
  refine ⟨k + i, h _ ?_⟩
  refine List.mem_map.mpr ⟨(d, k + i), ?_, rfl⟩
  rw [List.mem_iff_getElem]
  exact ⟨i, by simpa using hi, by simp [e]⟩
theorem fb_none {good : D → Bool} {most : Nat} : ∀ {n : Nat} {left : List It}, n ≤ most → fb good most n left = none →
    (∀ it ∈ left, it.1.length ≤ 5 ∧ tok good (6 - it.1.length) it.2 = true) ∧ (left.map icnt).sum ≤ n
  | _, [], _, _ => ⟨fun it h => by simp at h, by simp⟩
  | 0, it :: left, _, h => by simp [fb] at h
  | n + 1, it :: left, hm, h => by
    unfold fb at h
    split at h
    · cases h
    · rename_i hc
      simp only [not_or, Nat.not_lt, Bool.not_eq_false] at hc
      obtain ⟨h1, h2⟩ := fb_none (Nat.le_of_succ_le hm) h
      have hl := fb_len h
      obtain ⟨way, d⟩ := it
      obtain ⟨n6, e6⟩ : ∃ k, 6 - way.length = k + 1 := ⟨5 - way.length, by have := hc.1; simp at this; omega⟩
      by_cases ht : ∃ ds, d = .tup ds
      · obtain ⟨ds, rfl⟩ := ht
        have hlen : ds.length ≤ most := by
          have : (kids most (way, D.tup ds)).length = min ds.length most := by simp [kids]
          rw [List.length_append, this] at hl
          omega
        rw [kids_eq hlen] at h1 h2
        have e61 : 6 - (way.length + 1) = n6 := by omega
        have hk : ∀ d ∈ ds, tok good n6 d = true := by
          have := zip_map_fst ds (fun d k => ((way ++ [k], d) : It)) 0 (fun it => tok good (6 - it.1.length) it.2 = true) (fun b hb => (h1 b (List.mem_append_left _ hb)).2)
          intro d hd
          obtain ⟨j, hj⟩ := this d hd
          simp only [List.length_append, List.length_singleton, e61] at hj
          exact hj
        have hs : ((ds.zipIdx.map fun p => ((way ++ [p.2], p.1) : It)).map icnt).sum = (ds.map (cnt n6)).sum := by
          rw [List.map_map]
          have : (ds.zipIdx.map (icnt ∘ fun p => ((way ++ [p.2], p.1) : It))) = ds.map (cnt n6) := by
            apply List.ext_getElem
            · simp
            · intro i _ _
              simp [icnt, e61]
          rw [this]
        refine ⟨fun it hit => ?_, ?_⟩
        · rcases List.mem_cons.mp hit with e | hit
          · subst e
            refine ⟨hc.1, ?_⟩
            show tok good (6 - way.length) (.tup ds) = true
            rw [e6]
            show (good (.tup ds) && ds.all (tok good n6)) = true
            rw [hc.2, Bool.true_and, List.all_eq_true]
            exact hk
          · exact h1 it (List.mem_append_right _ hit)
        · rw [List.map_append, List.sum_append, hs] at h2
          (rw [List.map_cons, List.sum_cons])
          have : icnt (way, D.tup ds) = 1 + (ds.map (cnt n6)).sum := by
            unfold icnt
            simp only [e6, cnt]
          omega
      · have hk : kids most (way, d) = [] := kids_leaf (fun ds e => ht ⟨ds, e⟩)
        rw [hk, List.nil_append] at h1 h2
        refine ⟨fun it hit => ?_, ?_⟩
        · rcases List.mem_cons.mp hit with e | hit
          · subst e
            refine ⟨hc.1, ?_⟩
            show tok good (6 - way.length) d = true
            rw [e6]
            cases d with
            | tup ds => exact absurd ⟨ds, rfl⟩ ht
            | _ => exact hc.2
          · exact h1 it hit
        · rw [List.map_cons, List.sum_cons]
          have : icnt (way, d) = 1 := by
            unfold icnt
            simp only [e6]
            cases d with
            | tup ds => exact absurd ⟨ds, rfl⟩ ht
            | _ => rfl
          omega
theorem fb_good {good : D → Bool} {most : Nat} : ∀ {n : Nat} {left : List It}, n ≤ most → (∀ it ∈ left, it.1.length ≤ 5 ∧ tok good (6 - it.1.length) it.2 = true) → (left.map icnt).sum ≤ n →
    fb good most n left = none
  | _, [], _, _, _ => by simp [fb]
  | 0, it :: left, _, _, hs => by
    rw [List.map_cons, List.sum_cons] at hs
    have := cnt_pos (6 - it.1.length) it.2
    unfold icnt at hs
    omega
  | n + 1, it :: left, hm, h1, hs => by
    obtain ⟨way, d⟩ := it
    obtain ⟨hw, hk⟩ := h1 (way, d) List.mem_cons_self
    have hw : way.length ≤ 5 := hw
    obtain ⟨n6, e6⟩ : ∃ k, 6 - way.length = k + 1 := ⟨5 - way.length, by omega⟩
    have hk : tok good (6 - way.length) d = true := hk
    rw [e6] at hk
    have e61 : 6 - (way.length + 1) = n6 := by omega
    unfold fb
    by_cases ht : ∃ ds, d = .tup ds
    · obtain ⟨ds, rfl⟩ := ht
      have hk' : (good (.tup ds) && ds.all (tok good n6)) = true := hk
      rw [Bool.and_eq_true, List.all_eq_true] at hk'
      rw [if_neg (by simp [hk'.1]; exact hw)]
      have hc : icnt (way, D.tup ds) = 1 + (ds.map (cnt n6)).sum := by
        unfold icnt
        simp only [e6, cnt]
      rw [List.map_cons, List.sum_cons, hc] at hs
      have hlen : ds.length ≤ most := by have := cnt_ge n6 ds; omega
      rw [kids_eq hlen]
      refine fb_good (Nat.le_of_succ_le hm) (fun it hit => ?_) ?_
      · rcases List.mem_append.mp hit with hit | hit
        · obtain ⟨p, hp, e⟩ := List.mem_map.mp hit
          subst e
          have hpm : p.1 ∈ ds := by
            obtain ⟨_, _, e⟩ := List.mem_zipIdx hp
            rw [e]
            exact List.getElem_mem _
          refine ⟨?_, ?_⟩
          · simp only [List.length_append, List.length_singleton]
            show way.length + 1 ≤ 5
            cases n6 with
            | zero =>
              have := hk'.2 _ hpm
              simp [tok] at this
            | succ m => omega
          · simp only [List.length_append, List.length_singleton, e61]
            exact hk'.2 _ hpm
        · exact h1 it (List.mem_cons_of_mem _ hit)
      · rw [List.map_append, List.sum_append]
        have hs2 : ((ds.zipIdx.map fun p => ((way ++ [p.2], p.1) : It)).map icnt).sum = (ds.map (cnt n6)).sum := by
          rw [List.map_map]
          have : (ds.zipIdx.map (icnt ∘ fun p => ((way ++ [p.2], p.1) : It))) = ds.map (cnt n6) := by
            apply List.ext_getElem
            · simp
            · intro i _ _
              simp [icnt, e61]
          rw [this]
        rw [hs2]
        omega
    · have hk' : good d = true := by
        cases d with
        | tup ds => exact absurd ⟨ds, rfl⟩ ht
        | _ => exact hk
      rw [if_neg (by simp [hk']; exact hw)]
      rw [kids_leaf (fun ds e => ht ⟨ds, e⟩), List.nil_append]
      refine fb_good (Nat.le_of_succ_le hm) (fun it hit => h1 it (List.mem_cons_of_mem _ hit)) ?_
      rw [List.map_cons, List.sum_cons] at hs
      have : 1 ≤ icnt (way, d) := cnt_pos _ _
      omega
end K6
set_option maxHeartbeats 4000001
namespace K6
open L2 PySem PySem.Spec PyProof.Rows
def bnd : D → Bool
  | .int i => decide (-(10 ^ 30) < i) && decide (i < 10 ^ 30)
  | _ => false
def n30 : Nat → D → Bool
  | 0, _ => true
  | n + 1, .tup ds => ds.all (n30 n)
  | _ + 1, .int i => bnd (.int i)
  | _ + 1, _ => true
def own (d : D) : Bool := (fb (gd (10 ^ 30)) 60 60 [([], d)]).isNone
theorem gd30 (d : D) : gd (10 ^ 30) d = (gd (10 ^ 60) d && (!isNum d || bnd d)) := by
  cases d with
  | int i =>
    show (decide (-(10 ^ 30) < i) && decide (i < 10 ^ 30)) = ((decide (-(10 ^ 60) < i) && decide (i < 10 ^ 60)) && (decide (-(10 ^ 30) < i) && decide (i < 10 ^ 30)))
    by_cases h1 : -(10 ^ 30) < i
    · by_cases h2 : i < 10 ^ 30
      · rw [decide_eq_true h1, decide_eq_true h2, decide_eq_true (show -(10 ^ 60) < i by omega), decide_eq_true (show i < 10 ^ 60 by omega)]
        rfl
      · rw [decide_eq_false h2, Bool.and_false, Bool.and_false]
    · rw [decide_eq_false h1, Bool.false_and, Bool.and_false]
  | str s => show isNm s = (isNm s && true); rw [Bool.and_true]
  | _ => rfl
theorem tok30 : ∀ (n : Nat) (d : D), tok (gd (10 ^ 30)) n d = (tok (gd (10 ^ 60)) n d && n30 n d)
  | 0, d => by cases d <;> rfl
  | n + 1, .tup ds => by
    show (gd (10 ^ 30) (.tup ds) && ds.all (tok (gd (10 ^ 30)) n)) = ((gd (10 ^ 60) (.tup ds) && ds.all (tok (gd (10 ^ 60)) n)) && ds.all (n30 n))
    have e : ds.all (tok (gd (10 ^ 30)) n) = (ds.all (tok (gd (10 ^ 60)) n) && ds.all (n30 n)) := by
      induction ds with
      | nil => rfl
      | cons d r ih =>
        rw [List.all_cons, List.all_cons, List.all_cons, ih, tok30 n d]
        cases tok (gd (10 ^ 60)) n d <;> cases n30 n d <;> cases r.all (tok (gd (10 ^ 60)) n) <;> cases r.all (n30 n) <;> rfl
    rw [e]
    show (true && _) = ((true && _) && _)
    rw [Bool.true_and, Bool.true_and]
  | n + 1, .int i => by
    show gd (10 ^ 30) (.int i) = (gd (10 ^ 60) (.int i) && bnd (.int i))
    rw [gd30]
    rfl
  | n + 1, .str s => by
    show isNm s = (isNm s && true)
    rw [Bool.and_true]
  | n + 1, .bl _ => rfl
  | n + 1, .non => rfl
  | n + 1, .oth => rfl
theorem fb_start {good : D → Bool} {most : Nat} {d : D} : fb good most most [([], d)] = none ↔ tok good 6 d = true ∧ cnt 6 d ≤ most := by
  constructor
  · intro h
    obtain ⟨h1, h2⟩ := fb_none (Nat.le_refl _) h
    refine ⟨(h1 _ List.mem_cons_self).2, ?_⟩
    simpa [icnt] using h2
  · rintro ⟨h1, h2⟩
    refine fb_good (Nat.le_refl _) (fun it hit => ?_) (by simpa [icnt] using h2)
    simp at hit
    subst hit
    exact ⟨Nat.zero_le _, h1⟩
theorem own_iff {d : D} : own d = true ↔ tok (gd (10 ^ 30)) 6 d = true ∧ cnt 6 d ≤ 60 := by
  unfold own
  rw [Option.isNone_iff_eq_none]
  exact fb_start
theorem own_bad {d : D} {way : List Nat} (h : fb (gd (10 ^ 60)) 60 60 [([], d)] = some way) : own d = false := by
  cases e : own d with
  | false => rfl
  | true =>
    obtain ⟨h1, h2⟩ := own_iff.mp e
    rw [tok30, Bool.and_eq_true] at h1
    rw [fb_start.mpr ⟨h1.1, h2⟩] at h
    cases h
theorem own_good {d : D} (h : fb (gd (10 ^ 60)) 60 60 [([], d)] = none) : own d = n30 6 d ∧ tok (gd (10 ^ 60)) 6 d = true ∧ cnt 6 d ≤ 60 := by
  obtain ⟨h1, h2⟩ := fb_start.mp h
  refine ⟨?_, h1, h2⟩
  cases e : n30 6 d with
  | true => exact own_iff.mpr ⟨by rw [tok30, h1, e]; rfl, h2⟩
  | false =>
    cases e2 : own d with
    | false => rfl
    | true =>
      have := (own_iff.mp e2).1
      rw [tok30, e, Bool.and_false] at this
      cases this
def p30 (its : List (Nat × D)) : Bool := its.all fun p => n30 p.1 p.2
def pcnt (its : List (Nat × D)) : Nat := (its.map fun p => cnt p.1 p.2).sum
theorem pcnt_len (its : List (Nat × D)) : its.length ≤ pcnt its := by
  unfold pcnt
  induction its with
  | nil => simp
  | cons p r ih =>
    have := cnt_pos p.1 p.2
    (simp only [List.length_cons, List.map_cons, List.sum_cons])
    omega
theorem pcnt_app (a b : List (Nat × D)) : pcnt (a ++ b) = pcnt a + pcnt b := by
  unfold pcnt
  rw [List.map_append, List.sum_append]
theorem p30_app (a b : List (Nat × D)) : p30 (a ++ b) = (p30 a && p30 b) := List.all_append
theorem p30_kids (n : Nat) (ds : List D) : p30 (ds.map fun d => (n, d)) = n30 (n + 1) (.tup ds) := by
  unfold p30
  rw [List.all_map]
  rfl
theorem pcnt_kids (n : Nat) (ds : List D) : pcnt (ds.map fun d => (n, d)) + 1 = cnt (n + 1) (.tup ds) := by
  unfold pcnt
  rw [List.map_map]
  show (ds.map (cnt n)).sum + 1 = 1 + (ds.map (cnt n)).sum
  omega
end K6
set_option maxHeartbeats 4000001
namespace K6
open L2 PySem PySem.Spec PyProof.Rows
structure Tx (mg : Str → Option Value) : Prop where
  n_isinstance : mg "isinstance" = none
  n_int : mg "int" = none
  n_bool : mg "bool" = none
  n_str : mg "str" = none
  n_tuple : mg "tuple" = none
  n_list : mg "list" = none
  n_len : mg "len" = none
  n_all : mg "all" = none
  n_reversed : mg "reversed" = none
  n_range : mg "range" = none
  n_min : mg "min" = none
  n_abs : mg "abs" = none
  n_sum : mg "sum" = none
  n_enumerate : mg "enumerate" = none
  n_repr : mg "repr" = none
  n_ValueError : mg "ValueError" = none
  n_OverflowError : mg "OverflowError" = none
  n_LookupError : mg "LookupError" = none
  g_MOST_LETTERS : ∃ u, mg "MOST_LETTERS" = some u ∧ RelV (.int 8) u
  g_MOST_OPENED : ∃ u, mg "MOST_OPENED" = some u ∧ RelV (.int 40) u
  g_MOST_THINGS : ∃ u, mg "MOST_THINGS" = some u ∧ RelV (.int 300) u
  g_MOST_DEEP : ∃ u, mg "MOST_DEEP" = some u ∧ RelV (.int 5) u
  g_MOST_FIGURES_things : ∃ u, mg "MOST_FIGURES_things" = some u ∧ RelV (.int 60) u
  g_MOST_SIGNS : ∃ u, mg "MOST_SIGNS" = some u ∧ RelV (.int 30000) u
  g_MOST_PARTS : ∃ u, mg "MOST_PARTS" = some u ∧ RelV (.int 24) u
  g_MOST_WITHIN : ∃ u, mg "MOST_WITHIN" = some u ∧ RelV (.int 5) u
  g_MOST_OWN : ∃ u, mg "MOST_OWN" = some u ∧ RelV (.int 60) u
  g_MOST_SPAN : ∃ u, mg "MOST_SPAN" = some u ∧ RelV (.int 99) u
  g_MOST_WEIGHT : ∃ u, mg "MOST_WEIGHT" = some u ∧ RelV (.int 9) u
  g_MOST_SOME : ∃ u, mg "MOST_SOME" = some u ∧ RelV (.int 9) u
  g_MOST_JOINED : ∃ u, mg "MOST_JOINED" = some u ∧ RelV (.int 6) u
  g_MOST_MORE : ∃ u, mg "MOST_MORE" = some u ∧ RelV (.int 3) u
  g_MOST_FIGURES_gentexts : ∃ u, mg "MOST_FIGURES_gentexts" = some u ∧ RelV (.int 30) u
  g_SMALL : ∃ u, mg "SMALL" = some u ∧ RelV (.str "abcdefghijklmnopqrstuvwxyz") u
  g_FIGURES : ∃ u, mg "FIGURES" = some u ∧ RelV (.str "0123456789") u
  g_SIGNS : ∃ u, mg "SIGNS" = some u ∧ RelV (.str "()[]") u
  g_RUN : ∃ u, mg "RUN" = some u ∧ RelV (.str "run") u
  g_NAME : ∃ u, mg "NAME" = some u ∧ RelV (.str "name") u
  g_NUMBER : ∃ u, mg "NUMBER" = some u ∧ RelV (.str "number") u
  g_SIGN : ∃ u, mg "SIGN" = some u ∧ RelV (.str "sign") u
  g_ODD : ∃ u, mg "ODD" = some u ∧ RelV (.str "odd") u
theorem bt_int : bootBuiltins ("int" : Str) = some (.type "int") := by decide +kernel
theorem bt_bool : bootBuiltins ("bool" : Str) = some (.type "bool") := by decide +kernel
theorem bt_str : bootBuiltins ("str" : Str) = some (.type "str") := by decide +kernel
theorem bt_tuple : bootBuiltins ("tuple" : Str) = some (.type "tuple") := by decide +kernel
theorem bt_list : bootBuiltins ("list" : Str) = some (.type "list") := by decide +kernel
theorem bt_ValueError : bootBuiltins ("ValueError" : Str) = some (.type "ValueError") := by decide +kernel
theorem bt_OverflowError : bootBuiltins ("OverflowError" : Str) = some (.type "OverflowError") := by decide +kernel
theorem bt_LookupError : bootBuiltins ("LookupError" : Str) = some (.type "LookupError") := by decide +kernel
theorem bb_isinstance : bootBuiltins ("isinstance" : Str) = some (.builtin "isinstance") := by decide +kernel
theorem bb_all : bootBuiltins ("all" : Str) = some (.builtin "all") := by decide +kernel
theorem bb_min : bootBuiltins ("min" : Str) = some (.builtin "min") := by decide +kernel
theorem bb_abs : bootBuiltins ("abs" : Str) = some (.builtin "abs") := by decide +kernel
theorem bb_sum : bootBuiltins ("sum" : Str) = some (.builtin "sum") := by decide +kernel
theorem bb_repr : bootBuiltins ("repr" : Str) = some (.builtin "repr") := by decide +kernel
def rNil (K : PySem.W.Frag) (neg : Bool) : R2 := fun x y H Q => ∃ a b xs, x = .ref a ∧ y = .ref b ∧ SqL K H a xs ∧ SqL K H b [] ∧ Q (.bl (xs.isEmpty != neg)) H
section
variable {X : Cx}
theorem op_eqE {k : Nat} (hr : Room k X.A) : OpR X (compareOp .Eq) (rNil X.K false) := by
  (intro pins s σ H x y v u Q I rx ry h)
  obtain ⟨a, b, xs, rfl, rfl, ha, hb, q⟩ := h
  cases rx
  cases ry
  obtain ⟨its, r1, p1, _⟩ := I.list ha
  obtain ⟨jts, r2, p2, _⟩ := I.list hb
  cases r2
  cases xs with
  | nil =>
    cases r1
    exact SeqAt.eq_listAt (e := fun _ => true) p1.isList p2.isList rfl hr.units0 (fun j h1 => absurd h1 (Nat.not_lt_zero _)) ⟨.bl true, H, I, rfl, q⟩
  | cons z zs =>
    cases r1
    exact SeqAt.eq_list_lengthsAt p1.isList p2.isList (by simp) hr.units0 ⟨.bl false, H, I, rfl, q⟩
theorem op_neE {k : Nat} (hr : Room k X.A) : OpR X (compareOp .NotEq) (rNil X.K true) := by
  (intro pins s σ H x y v u Q I rx ry h)
  obtain ⟨a, b, xs, rfl, rfl, ha, hb, q⟩ := h
  cases rx
  cases ry
  obtain ⟨its, r1, p1, _⟩ := I.list ha
  obtain ⟨jts, r2, p2, _⟩ := I.list hb
  cases r2
  cases xs with
  | nil =>
    cases r1
    exact SeqAt.RcNeAt.lists (e := fun _ => true) p1.isList p2.isList rfl hr.units0 (fun j h1 => absurd h1 (Nat.not_lt_zero _)) _ _ _ _ ⟨.bl false, H, I, rfl, q⟩
  | cons z zs =>
    cases r1
    exact SeqAt.RcNeAt.lists_lengths p1.isList p2.isList (by simp) hr.units0 _ _ _ _ ⟨.bl true, H, I, rfl, q⟩
def rCatW : R2 := fun x y H Q => ∃ a b xs ys, x = .ref a ∧ y = .ref b ∧ H a = some (.tup xs) ∧ H b = some (.tup ys) ∧ xs.length + ys.length ≤ sizeLine ∧ ∀ r H', Same H H' → H' r = some (.tup (xs ++ ys)) → Q (.ref r) H'
theorem op_catW : OpR X (binaryOp .Add) rCatW := by
  (intro pins s σ H x y v u Q I rx ry h)
  obtain ⟨a, b, xs, ys, rfl, rfl, ha, hb, hz, q⟩ := h
  refine op_catA pins s σ H _ _ v u Q I rx ry ⟨a, b, xs, ys, rfl, rfl, .inl (.inl ha), .inl (.inl hb), hz, fun e => ?_, fun _ e => ?_, fun _ _ p hp => q p _ (by intro c o e; rw [upd_ne (ne_of_none e hp)]; exact e) upd_same⟩
  · subst e
    exact q b H (Same.refl H) hb
  · subst e
    rw [List.append_nil] at q
    exact q a H (Same.refl H) ha
end
theorem pi_rr {X : Cx} {tg a : Expr} {ta : TE} {p pos p2 pos2 : Pos} (hg : Gl X "reversed") (hm : X.mg "reversed" = none) (hg2 : Gl X "range") (hm2 : X.mg "range" = none) (ha : PE X a ta)
    (na : starEach [a] X.env = (false, eval a X.env) :: starEach [] X.env := by rfl) (hs : starEach [.Call (.Name "range" p2) [a] [] pos2] X.env = (false, eval (.Call (.Name "range" p2) [a] [] pos2) X.env) :: starEach [] X.env := by rfl) :
    PI X tg (.Call (.Name "reversed" p) [.Call (.Name "range" p2) [a] [] pos2] [] pos) (iRevR (tRg1 ta)) := pi_revR hg hm (prg_1 hg2 hm2 ha na) hs
section
variable {X : Cx} (K : PySem.W.Frag)
theorem ix_tupK (h : X.K = K := by rfl) : IxR X (rIxT K) := by subst h; exact ix_tup
theorem ix_listK (h : X.K = K := by rfl) : IxR X (rIxL K) := by subst h; exact ix_list
theorem call_lenK (h : X.K = K := by rfl) : CallR X (.builtin "len") (fun xs H Q => ∃ x n, xs = [x] ∧ LenV K x H n ∧ Q (.int n) H) := by subst h; exact call_len
theorem call_isDK (h : X.K = K := by rfl) : CallR X (.builtin "isinstance") (rIsD K) := by subst h; exact call_isD
theorem call_tupK (h : X.K = K := by rfl) : CallR X (.type "tuple") (fun xs H Q => ∃ p ys, xs = [.ref p] ∧ ((SqL K H p ys ∧ ∀ l, H l = none → Q (.ref l) (upd H l (.tup ys))) ∨ (SqT K H p ys ∧ Q (.ref p) H))) := by subst h; exact call_tuple_of
theorem call_lstK (h : X.K = K := by rfl) : CallR X (.type "list") (fun xs H Q => ∃ p ys, xs = [.ref p] ∧ (SqL K H p ys ∨ SqT K H p ys) ∧ ∀ l, H l = none → Q (.ref l) (upd H l (.lst ys))) := by subst h; exact call_list_of
theorem call_sumK (hc : X.calm = true) (h : X.K = K := by rfl) : CallR X (.builtin "sum") (rSum K) := by subst h; exact cr_sum hc
theorem call_allK (hc : X.calm = true) (h : X.K = K := by rfl) : CallR X (.builtin "all") (rAll K) := by subst h; exact cr_all hc
theorem op_eqEK {k : Nat} (hr : Room k X.A) (h : X.K = K := by rfl) : OpR X (compareOp .Eq) (rNil K false) := by subst h; exact op_eqE hr
theorem op_neEK {k : Nat} (hr : Room k X.A) (h : X.K = K := by rfl) : OpR X (compareOp .NotEq) (rNil K true) := by subst h; exact op_neE hr
theorem op_eqDK {k : Nat} (hr : Room k X.A) (h : X.K = K := by rfl) : OpR X (compareOp .Eq) (rEqD K) := by subst h; exact op_eqD hr.units
theorem op_neDK {k : Nat} (hr : Room k X.A) (h : X.K = K := by rfl) : OpR X (compareOp .NotEq) (rNeD K) := by subst h; exact op_neD hr.units
theorem op_inK (h : X.K = K := by rfl) : OpR X (compareOp .In) (rIn K false) := by subst h; exact op_in_seq
theorem op_notInK (h : X.K = K := by rfl) : OpR X (compareOp .NotIn) (rIn K true) := by subst h; exact op_notIn_seq
theorem sl_tupK (h : X.K = K := by rfl) : SlR X (rSlT K) := by subst h; exact sl_tup
theorem sl_listK (h : X.K = K := by rfl) : SlR X (rSlL K) := by subst h; exact sl_list
theorem pi_listK {tg l : Expr} {tl : TE} (hl : PE X l tl) (h : X.K = K := by rfl) : PI X tg l (iList K tl) := by subst h; exact pi_list hl
theorem pi_tupK {tg l : Expr} {tl : TE} (hl : PE X l tl) (h : X.K = K := by rfl) : PI X tg l (iTup K tl) := by subst h; exact pi_tup hl
theorem pg_tupK {es : List Expr} {k : Nat} {t : TGs} {n : Nat} {pos : Pos} (hc : X.calm = true) (ht : PGs X es t) (hn : (assignEach es X.env).length = n := by rfl) (hst : (assignEach es X.env).findIdx? (·.1) = none := by rfl) (h : X.K = K := by rfl) :
    PG X (.Tuple es k pos) (gTup K n t) := by subst h; exact pg_tup hc ht hn hst
end
def All2 {α β : Type} (R : α → β → Prop) (xs : List α) (ys : List β) : Prop := xs.length = ys.length ∧ ∀ (i : Nat) x y, xs[i]? = some x → ys[i]? = some y → R x y
theorem reps_all {H : Hp} {xs : List V} {ds : List D} : Reps H xs ds ↔ All2 (Rep H) xs ds := Iff.rfl
section
variable {α β : Type} {R R' : α → β → Prop}
theorem All2.nil : All2 R [] [] := ⟨rfl, fun i x d h => by simp at h⟩
theorem All2.cons {x : α} {d : β} {xs : List α} {ds : List β} (r : R x d) (t : All2 R xs ds) : All2 R (x :: xs) (d :: ds) := by
  refine ⟨by simp [t.1], fun i y e h1 h2 => ?_⟩
  cases i with
  | zero => simp at h1 h2; subst h1 h2; exact r
  | succ i => exact t.2 i y e (by simpa using h1) (by simpa using h2)
theorem All2.app {xs ys : List α} {ds es : List β} (r : All2 R xs ds) (t : All2 R ys es) : All2 R (xs ++ ys) (ds ++ es) := by
  refine ⟨by simp [r.1, t.1], fun i y e h1 h2 => ?_⟩
  by_cases hi : i < xs.length
  · rw [List.getElem?_append_left hi] at h1
    rw [List.getElem?_append_left (by rw [← r.1]; exact hi)] at h2
    exact r.2 i y e h1 h2
  · rw [List.getElem?_append_right (by omega)] at h1
    rw [List.getElem?_append_right (by rw [← r.1]; omega)] at h2
    rw [r.1] at h1
    exact t.2 _ y e h1 h2
theorem All2.one {x : α} {d : β} (r : R x d) : All2 R [x] [d] := All2.cons r All2.nil
theorem All2.mono {xs : List α} {ds : List β} (t : All2 R xs ds) (h : ∀ x d, R x d → R' x d) : All2 R' xs ds := ⟨t.1, fun i x d h1 h2 => h x d (t.2 i x d h1 h2)⟩
theorem All2.nil_left {ds : List β} (t : All2 R [] ds) : ds = [] := List.eq_nil_of_length_eq_zero (by simpa using t.1.symm)
theorem All2.nil_right {xs : List α} (t : All2 R xs []) : xs = [] := List.eq_nil_of_length_eq_zero (by simpa using t.1)
theorem All2.head {x : α} {d : β} {xs : List α} {ds : List β} (t : All2 R (x :: xs) (d :: ds)) : R x d := t.2 0 x d rfl rfl
theorem All2.tail {x : α} {d : β} {xs : List α} {ds : List β} (t : All2 R (x :: xs) (d :: ds)) : All2 R xs ds := ⟨by simpa using t.1, fun i y e h1 h2 => t.2 (i + 1) y e (by simpa using h1) (by simpa using h2)⟩
theorem All2.rev {xs : List α} {ds : List β} (t : All2 R xs ds) : All2 R xs.reverse ds.reverse := by
  refine ⟨by simp [t.1], fun i x d h1 h2 => ?_⟩
  have hi : i < xs.reverse.length := (List.getElem?_eq_some_iff.mp h1).1
  rw [List.length_reverse] at hi
  rw [List.getElem?_reverse hi] at h1
  rw [List.getElem?_reverse (by rw [← t.1]; exact hi), ← t.1] at h2
  exact t.2 _ x d h1 h2
theorem All2.get {xs : List α} {ds : List β} (r : All2 R xs ds) {i : Nat} {d : β} (h : ds[i]? = some d) : ∃ x, xs[i]? = some x ∧ R x d := by
  have hi : i < ds.length := (List.getElem?_eq_some_iff.mp h).1
  have hx : i < xs.length := by rw [r.1]; exact hi
  exact ⟨xs[i], List.getElem?_eq_getElem hx, r.2 i _ _ (List.getElem?_eq_getElem hx) h⟩
theorem All2.getV {xs : List α} {ds : List β} (r : All2 R xs ds) {i : Nat} {x : α} (h : xs[i]? = some x) : ∃ d, ds[i]? = some d ∧ R x d := by
  have hi : i < xs.length := (List.getElem?_eq_some_iff.mp h).1
  have hx : i < ds.length := by rw [← r.1]; exact hi
  exact ⟨ds[i], List.getElem?_eq_getElem hx, r.2 i _ _ h (List.getElem?_eq_getElem hx)⟩
theorem All2.take {xs : List α} {ds : List β} (r : All2 R xs ds) (n : Nat) : All2 R (xs.take n) (ds.take n) := by
  refine ⟨by simp [r.1], fun i x d h1 h2 => ?_⟩
  rw [List.getElem?_take] at h1 h2
  split at h1
  · rename_i hi
    rw [if_pos hi] at h2
    exact r.2 i x d h1 h2
  · cases h1
theorem All2.drop {xs : List α} {ds : List β} (r : All2 R xs ds) (n : Nat) : All2 R (xs.drop n) (ds.drop n) := by
  refine ⟨by simp [r.1], fun i x d h1 h2 => ?_⟩
  rw [List.getElem?_drop] at h1 h2
  exact r.2 _ x d h1 h2
end
def CPv {α : Type} (R : Hp → V → α → Prop) (ks : List α) (H1 : Hp) (D : Addr) (i : Nat) (H : Hp) : Prop := Same H1 H ∧ ∃ ys, H D = some (.lst ys) ∧ All2 (R H) ys (ks.take i)
theorem gr_put {H : Hp} {D : Addr} {xs ys : List V} (h : H D = some (.lst xs)) : Gr H (upd H D (.lst ys)) := by
  refine ⟨fun b zs e => ?_, fun b zs e => ?_, fun b zs e => ?_⟩
  · rw [upd_ne (ne_of e h (by intro z; cases z))]
    exact e
  · by_cases hb : b = D
    · subst hb
      exact ⟨ys, upd_same⟩
    · exact ⟨zs, by rw [upd_ne hb]; exact e⟩
  · exact ⟨zs, by rw [upd_ne (ne_of e h (by intro z; cases z))]; exact e⟩
section
variable {α : Type} {R : Hp → V → α → Prop} {ks : List α} {H1 : Hp} {D : Addr}
theorem cpv_start (hD : H1 D = none) : CPv R ks H1 D 0 (upd H1 D (.lst [])) := ⟨(Same.refl H1).new hD, [], upd_same, All2.nil⟩
theorem cpv_fin (hR : ∀ H H' v a, Gr H H' → R H v a → R H' v a) (hD : H1 D = none) (hz : ks.length ≤ 1000000) {i : Nat} {k : α} {H H4 : Hp} {y : V} (hk : ks[i]? = some k) (p : CPv R ks H1 D i H) (s : Same H H4) (r : R H4 y k) :
    ∃ acc, H4 D = some (.lst acc) ∧ acc.length < sizeLine ∧ CPv R ks H1 D (i + 1) (upd H4 D (.lst (acc ++ [y]))) := by
  obtain ⟨s1, ys, hy, a⟩ := p
  have e4 := s _ _ hy
  have g : Gr H4 (upd H4 D (.lst (ys ++ [y]))) := gr_put e4
  refine ⟨ys, e4, sizes ?_, (s1.trans s).put hD, _, upd_same, ?_⟩
  · rw [a.1, List.length_take]
    omega
  · rw [List.take_succ, hk]
    exact (a.mono fun x d q => hR _ _ _ _ ((Gr.of s).trans g) q).app (All2.one (hR _ _ _ _ g r))
theorem cpv_done {n : Nat} {H : Hp} (hn : ks.length ≤ n) (p : CPv R ks H1 D n H) : Same H1 H ∧ ∃ ys, H D = some (.lst ys) ∧ All2 (R H) ys ks := by
  obtain ⟨s1, ys, hy, a⟩ := p
  rw [List.take_of_length_le hn] at a
  exact ⟨s1, ys, hy, a⟩
end
end K6
set_option maxHeartbeats 4000001
namespace K6
open L2 PySem PySem.Spec PyProof.Rows
open AutoSeq1 in
theorem ext_tup (l : Addr) (its : Array Value) (n : Nat) (b : Addr) (jts : Array Value) (m : Nat) (dd : Option Addr) (sl : Array (Option Value)) (h0 : ¬(!its.isEmpty && Builtin.List.listTooLong (its.size + jts.size)) = true) (h1 : its.size ≤ sizeLine) (h2 : its.size + jts.size ≤ sizeLine + 1) :
    Meets (Builtin.«list.extend» ⟨[.ref l, .ref b], []⟩) fun _ R s => s.heap.get? l = some { cls := .type "list", dict := none, data := .seq its n, slots := #[] } ∧
      s.heap.get? b = some { cls := .type "tuple", dict := dd, data := .seq jts m, slots := sl } ∧ R (.ok (.ret Value.none)) { s with heap := s.heap.update l (Obj.mapSeq fun x => x ++ jts), toks := s.toks } := by
  (refine .of_wp fun prog w A R s h => ?_)
  (obtain ⟨hp, g, d, tk, os⟩ := s)
  obtain ⟨eL, eB, hR⟩ := h
  have k1 := idx_int
  have k2 := AutoSeq1.sub_tuple_tuple
  have k3 := AutoSeq1.sub_list_list
  have k4 := AutoSeq1.sub_tuple_list
  have k5 := AutoSeq1.sub_list_tuple
  have hz : (its ++ jts).size ≤ sizeLine + 1 := by
    rw [Array.size_append]
    exact h2
  wp_walk using (wpAny_updateSeq eL rfl (hz := h1) (_hz' := hz)), wpAny_loadPart' eL, wpAny_loadPart' eB
  exact ⟨_, rfl, hR⟩
section
variable {X : Cx}
def rExtT : V → List V → Hp → VK → Prop := fun x vs H Q => ∃ l b xs zs, x = .ref l ∧ vs = [.ref b] ∧ H l = some (.lst xs) ∧ H b = some (.tup zs) ∧ xs.length + zs.length ≤ sizeLine ∧ Q .non (upd H l (.lst (xs ++ zs)))
theorem mt_extT : MtM X "list.extend" rExtT := by
  (intro pins s σ H x vs v us Q I rx rv h)
  (obtain ⟨l, b, xs, zs, rfl, rfl, hH, hB, hz, q⟩ := h)
  cases rx
  obtain ⟨u, rfl, ru⟩ := rv.one
  cases ru
  (obtain ⟨z, its, n, r, hl, e⟩ := I.lstM hH)
  obtain ⟨jts, r2, p2, hz2⟩ := I.tuple (K6.sqt hB)
  obtain ⟨⟨oc, od, dt, sl⟩, eo, hc, m, hd⟩ := p2
  simp only at hc hd
  subst hc hd
  have e2 := r2.length
  have hsz : its.toArray.size + jts.toArray.size ≤ sizeLine := by
    (rw [List.size_toArray, List.size_toArray])
    omega
  refine call_meets F.slot_list_extend ⟨_, e, rfl⟩ F.entry_list_extend (F.args_list_extend_2 _ _) (ext_tup l its.toArray n b jts.toArray m od sl (extend_door hsz) (by rw [List.size_toArray]; omega) (by omega)) ⟨e, eo, ?_⟩
  refine ⟨.non, _, I.lset (its' := its ++ jts) hH e (by simp) (r.append r2) ?_, rfl, q⟩
  rw [List.length_append]
  omega
section
open PySem.W
theorem star_items {prog : Program} {w : World} {A : Around} {E : Value → Shared → Prop} {s : Shared} {t : Addr} {x : Value} {xs : List Value} {Q : List Value → Shared → Prop} (nohand : A.handled = none) (tp : IsTup s.heap t (x :: xs).toArray) (len : xs.length ≤ 16000)
    (go : ∀ h' tk, Heap.ExtBut s.heap.objs.size s.heap h' → Q [x, .ref h'.objs.size] { s with heap := h'.push { cls := .type "list", data := .seq xs.toArray }, toks := tk }) : wpAny (model prog w) A (unpackItems (.ref t) 2 (some 1)) Q E s := by
  have apart : t ≠ s.heap.objs.size := by
    obtain ⟨ob, at_, _⟩ := tp
    exact Nat.ne_of_lt (Heap.lt_size at_)
  unfold unpackItems notIterableAtAll
  refine wpAny_bind (wpAny_bind (wpAny_specialOf tp.typeIs slot_tuple_iter.lookup (wpAny_pure ?_)))
  rw [if_neg (show ¬ (false = true) from Bool.false_ne_true)]
  refine wpAny_bind (wpAny_holding (iter_tuple tp (wpAny_bind (wpAny_holding (draw_tuple apart 1 0 _ _ ⟨_, Heap.get?_push_size _ rfl, rfl, rfl⟩ (tp.push _) (by simp) fun g it same => ?_)))))
  have tp2 : IsTup g t (x :: xs).toArray := (tp.push _).extBut same.extBut apart
  obtain ⟨oi, at1, r1⟩ := id it
  obtain ⟨ot, at2, r2⟩ := id tp2
  refine wpAny_ite_split (fun z => absurd z (by simp)) fun _ => ?_
  refine wpAny_bind (wpAny_holding (kun_collect (s := { s with heap := g }) (T := "tuple_iterator") (.inr (.inr (.inr rfl))) (Walks.tuple (A := A.in1) nohand s.heap.objs.size t apart (x :: xs).toArray) (fun _ _ z => z.1.typeIs) (k := 1) (by simp) ⟨it, tp2⟩
    (Heap.lt_size at1) (Heap.lt_size at2) (fun g2 tk keep => ?_) (by rw [sizeLine_eq]; simp; omega)))
  have ex : Heap.ExtBut s.heap.objs.size s.heap g2 := fun b o hb e => keep b o hb (same.extBut b o hb (Heap.get?_push_of_some _ e))
  refine wpAny_ite_split (fun z => absurd z (by simp)) fun _ => ?_
  have e0 : (List.drop 1 (x :: xs).toArray.toList) = xs := by simp
  have e1 : List.take 1 (List.drop 0 (x :: xs).toArray.toList) = [x] := by simp
  show wpAny _ _ (newList (List.take ((List.drop 1 (x :: xs).toArray.toList).length - (2 - 1 - 1)) (List.drop 1 (x :: xs).toArray.toList)) >>= fun d =>
    pure (List.take 1 (List.drop 0 (x :: xs).toArray.toList) ++ [d] ++ List.drop ((List.drop 1 (x :: xs).toArray.toList).length - (2 - 1 - 1)) (List.drop 1 (x :: xs).toArray.toList))) _ _ _
  rw [e0, e1, show 2 - 1 - 1 = 0 from rfl, Nat.sub_zero, List.take_length, List.drop_length]
  exact wpAny_bind (wpAny_newList (wpAny_pure (go g2 tk ex)) (by rw [sizeLine_eq]; omega))
end
def gStar (K : PySem.W.Frag) (i j : Nat) : TG := fun v σ H Q => ∃ a x xs, v = .ref a ∧ SqT K H a (x :: xs) ∧ xs.length ≤ 16000 ∧ ∀ p, H p = none → Q ((σ.set i (some x)).set j (some (.ref p))) (upd H p (.lst xs))
theorem pg_star (K : PySem.W.Frag) {i j : Nat} {x y : Str} {px py pz pos : Pos} {k : Nat} (hc : X.calm = true) (hN : X.N.Nodup) (hi : X.N[i]? = some x := by rfl) (hj : X.N[j]? = some y := by rfl) (hx : Loc X.env.scope x := by first | exact Or.inl rfl | exact Or.inr rfl) (hy : Loc X.env.scope y := by first | exact Or.inl rfl | exact Or.inr rfl)
    (hf : X.fn x = true ∨ X.env.scope.names.lookup x = some .local := by first | exact .inl rfl | exact .inr rfl) (hg : X.fn y = true ∨ X.env.scope.names.lookup y = some .local := by first | exact .inl rfl | exact .inr rfl) (hK : X.K = K := by rfl) :
    PG X (.Tuple [.Name x px, .Starred (.Name y py) pz] k pos) (gStar K i j) := by
  subst hK
  (refine ⟨fun pins s σ H v u Q I r hw => ?_⟩)
  obtain ⟨a, z, zs, rfl, hq, hl, q⟩ := hw
  cases r
  obtain ⟨its, rv, tp, _⟩ := I.tuple hq
  cases rv with
  | @cons _ _ _ us r1 r2 =>
  rw [assign_Tuple]
  (refine wpAny_bind (wpAny_standAt ?_))
  unfold unpack
  refine wpAny_bind (wpAny_holding (star_items (I.ok.hd hc) tp (by rw [← r2.length]; exact hl) fun h' tk ex => ?_))
  have I1 : Inv X pins σ H { s with heap := h', toks := tk } := I.kept fun b o e => ex b o (Nat.ne_of_lt (Heap.lt_size e)) e
  have fr : H h'.objs.size = none := I1.hok.fresh (Nat.le_refl _)
  have I2 : Inv X pins σ (upd H h'.objs.size (.lst zs)) { s with heap := h'.push { cls := .type "list", data := .seq us.toArray }, toks := tk } :=
    I1.laid (t' := tk) (fun b o e => Heap.get?_push_of_some _ e) (Nat.le_refl _) ⟨by have := lsz1 (n := 16000); omega, us, 0, r2, Heap.get?_push_size _ rfl⟩
  show wpAny _ _ (assignInOrder [assign (.Name x px) X.env, assign (.Name y py) X.env] [_, .ref h'.objs.size]) _ _ _
  refine assignInOrder_cons (wpAny_assign_Name (store_ok I2 hN hi hx r1 (fun s2 I3 => ?_) hf))
  refine assignInOrder_cons (wpAny_assign_Name (store_ok (v := .ref h'.objs.size) I3 hN hj hy rfl (fun s3 I4 => ?_) hg))
  exact assignInOrder_nil ⟨_, _, I4, q _ fr⟩
end
end K6
set_option maxHeartbeats 4000001
namespace K6
open L2 PySem PySem.Spec PyProof.Rows
structure KTab (K : PySem.W.Frag) (w : World) (mg : Str → Option Value) (x : Str) (ks : List Str) (a : Addr) : Prop where
  m : ∃ u, mg x = some u ∧ RelV (.ref a) u
  d : ∃ es n, KDict K w a es n ∧ es.toList.map He.keyOf = He.keysIn w.params ks
structure WTab (K : PySem.W.Frag) (w : World) (mg : Str → Option Value) (x : Str) (kvs : List (Str × V)) (a : Addr) : Prop where
  t : KTab K w mg x (kvs.map (·.1)) a
  v : ∀ q ∈ kvs, ∃ u, PySem.W.nsIn K a q.1 = some (some u) ∧ RelV q.2 u
theorem keyOf_some {e : DictEntry} {x : Str} {h : Int} (q : He.keyOf e = some (x, h)) : ∃ t, e.key = .str x t := by
  unfold He.keyOf at q
  split at q
  · rename_i y t ek
    cases q
    exact ⟨t, ek⟩
  · cases q
theorem entries_find {P : Params} {z : Str} : ∀ {l : List DictEntry} {ks : List Str}, l.map He.keyOf = He.keysIn P ks → (l.find? (·.key.isStr z)).isSome = decide (z ∈ ks) ∧ l.any (·.refKey) = false
  | [], [], _ => ⟨rfl, rfl⟩
  | [], k :: ks, h => by cases h
  | e :: r, [], h => by cases h
  | e :: r, k :: ks, h => by
    have h1 : He.keyOf e :: r.map He.keyOf = some (k, PyData.keyHash P k) :: He.keysIn P ks := h
    injection h1 with h2 h3
    obtain ⟨t, ek⟩ := keyOf_some h2
    obtain ⟨i1, i2⟩ := entries_find h3
    have hs : e.key.isStr z = decide (k = z) := by
      rw [ek]
      show (k == z) = _
      by_cases hq : k = z
      · rw [decide_eq_true hq, hq, beq_self_eq_true]
      · rw [decide_eq_false hq, beq_false_of_ne hq]
    refine ⟨?_, ?_⟩
    · rw [List.find?_cons, hs]
      by_cases hk : k = z
      · rw [decide_eq_true hk]
        rw [decide_eq_true (show z ∈ k :: ks from hk ▸ List.mem_cons_self)]
        rfl
      · rw [decide_eq_false hk]
        show (r.find? _).isSome = _
        rw [i1]
        have hz : z ≠ k := fun q => hk q.symm
        by_cases hm : z ∈ ks
        · rw [decide_eq_true hm, decide_eq_true (List.mem_cons_of_mem _ hm)]
        · rw [decide_eq_false hm, decide_eq_false (by simp [hz, hm])]
    · rw [List.any_cons, i2, Bool.or_false]
      show DictEntry.refKey e = false
      unfold DictEntry.refKey
      rw [ek]
section
variable {K : PySem.W.Frag} {w : World} {mg : Str → Option Value} {x : Str} {kvs : List (Str × V)} {ks : List Str} {a : Addr}
theorem WTab.m (W : WTab K w mg x kvs a) : ∃ u, mg x = some u ∧ RelV (.ref a) u := W.t.m
theorem KTab.find (W : KTab K w mg x ks a) (z : Str) : ∃ r, PySem.W.nsIn K a z = some r ∧ r.isSome = decide (z ∈ ks) := by
  obtain ⟨es, n, D, hk⟩ := W.d
  obtain ⟨h1, h2⟩ := entries_find (z := z) hk
  have e : PySem.W.nsIn K a z = (match es.toList.find? (·.key.isStr z) with
      | some e => some (some e.val)
      | none => if es.toList.any (·.refKey) then none else some none) := by
    unfold PySem.W.nsIn
    rw [D.at_]
    rfl
  rw [← h1, e, h2]
  cases es.toList.find? (·.key.isStr z) with
  | none => (exact ⟨none, rfl, rfl⟩)
  | some e => exact ⟨some e.val, rfl, rfl⟩
theorem lookup_mem' {z : Str} : ∀ {l : List (Str × V)}, z ∈ l.map (·.1) → ∃ v, (z, v) ∈ l ∧ l.lookup z = some v
  | (k, v) :: r, h => by
    by_cases hk : z = k
    · subst hk
      exact ⟨v, List.mem_cons_self, by rw [List.lookup_cons, beq_self_eq_true]⟩
    · have h2 : z ∈ r.map (·.1) := by
        (rcases List.mem_cons.mp h with e | e)
        · exact absurd e hk
        · exact e
      obtain ⟨u, hu, e⟩ := lookup_mem' h2
      refine ⟨u, List.mem_cons_of_mem _ hu, ?_⟩
      rw [List.lookup_cons, show (z == k) = false from beq_false_of_ne hk]
      exact e
theorem lookup_none' {z : Str} : ∀ {l : List (Str × V)}, z ∉ l.map (·.1) → l.lookup z = none
  | [], _ => rfl
  | (k, v) :: r, h => by
    rw [List.map_cons, List.mem_cons, not_or] at h
    rw [List.lookup_cons, show (z == k) = false from beq_false_of_ne h.1]
    exact lookup_none' h.2
theorem WTab.at (W : WTab K w mg x kvs a) (z : Str) : ∃ r, PySem.W.nsIn K a z = some r ∧ RelO (kvs.lookup z) r := by
  obtain ⟨r, e, h⟩ := W.t.find z
  by_cases hz : z ∈ kvs.map (·.1)
  · obtain ⟨v, hv, el⟩ := lookup_mem' hz
    obtain ⟨u, eu, ru⟩ := W.v _ hv
    rw [el]
    exact ⟨some u, eu, ru⟩
  · rw [decide_eq_false hz] at h
    cases r with
    | some u => cases h
    | none =>
      rw [lookup_none' hz]
      exact ⟨none, e, trivial⟩
end
section
variable {X : Cx} {x : Str} {kvs : List (Str × V)} {ks : List Str} {a : Addr}
def rInW (a : Addr) (ks : List Str) : R2 := fun x y H Q => ∃ z, x = .str z ∧ y = .ref a ∧ Q (.bl (decide (z ∈ ks))) H
theorem op_inW (W : KTab X.K X.w X.mg x ks a) : OpR X (compareOp .In) (rInW a ks) := by
  intro pins s σ H y z v u Q I rx ry h
  obtain ⟨t, rfl, rfl, q⟩ := h
  obtain ⟨es, n, D, _⟩ := W.d
  obtain ⟨r, e, hr⟩ := W.find t
  exact op_in_kd D pins s σ H _ _ v u Q I rx ry ⟨t, r, rfl, rfl, e, by rw [hr]; exact q⟩
def tWGet (a : Addr) (kvs : List (Str × V)) (td ty tx : TE) : TE := fun σ H Q => td σ H fun x H1 => x = .ref a ∧ ty σ H1 fun y H2 => tx σ H2 fun d H3 => ∃ z, y = .str z ∧ Q ((kvs.lookup z).getD d) H3
theorem pe_wget2 {o e f : Expr} {apos cpos : Pos} {td ty tx : TE} (W : WTab X.K X.w X.mg x kvs a) (ho : PE X o td) (he : PE X e ty) (hf : PE X f tx) (m : M2 X o "get" apos e f cpos) : PE X (.Call (.Attribute o "get" apos) [e, f] [] cpos) (tWGet a kvs td ty tx) := by
  obtain ⟨es, n, D, _⟩ := W.t.d
  (refine ⟨fun pins s σ H Q I h => ?_⟩)
  refine wpAny_Call_method m.base m.few m.line PySem.F.plainAttrs_dict PySem.F.slot_dict_get PySem.F.type_dict_get (thn (ho.run pins s σ H _ I h) fun u s1 ⟨x, H1, I1, rx, ex, q1⟩ => ?_)
  subst ex
  (obtain rfl : u = Value.ref a := rx)
  have dd := PySem.W.mapOf_K (prog := X.prog) (w := X.w) I1.kIn D.at_ D.lit
  have at1 := I1.kIn _ _ D.at_
  refine ⟨kd_type D I1, fun b eb => by cases eb; exact ⟨_, at1, rfl⟩, ?_⟩
  rw [m.trees]
  refine Calls.callWith_builtin rfl
      (Calls.evalArgs_plain (Calls.spliced_cons (thn (he.run pins s1 σ H1 _ I1 q1) fun iv s2 ⟨y, H2, I2, ry, q2⟩ =>
    Calls.spliced_cons (thn (hf.run pins s2 σ H2 _ I2 q2) fun fv s3 ⟨z, H3, I3, rz, t, ey, q3⟩ => Calls.spliced_nil ?_))))
  subst ey
  obtain ⟨tk, rfl⟩ := ry
  obtain ⟨r, e, hr⟩ := W.at t
  refine call_meetsIn PySem.F.slot_dict_get (kd_type D I3) PySem.F.entry_dict_get (PySem.F.args_dict_get_3 _ _ _) (meets_dict_get_default (strKind X.prog X.w) a (PySem.strKind_is X.prog X.w t tk) D.low fv) ⟨_, PySem.W.mapOf_K I3.kIn D.at_ D.lit, ?_⟩
  rw [PySem.W.find_K D.at_ e]
  exact ⟨_, H3, I3.tok _, hr.getD rz, q3⟩
def rListW (a : Addr) (ks : List Str) : List V → Hp → VK → Prop := fun xs H Q => xs = [.ref a] ∧ ∀ q, H q = none → Q (.ref q) (upd H q (.lst (ks.map V.str)))
theorem keys_vals {P : Params} : ∀ {l : List DictEntry} {ks : List Str}, l.map He.keyOf = He.keysIn P ks → Vals (ks.map V.str) (l.map (·.key))
  | [], [], _ => .nil
  | [], k :: ks, h => by cases h
  | e :: r, [], h => by cases h
  | e :: r, k :: ks, h => by
    have h1 : He.keyOf e :: r.map He.keyOf = some (k, PyData.keyHash P k) :: He.keysIn P ks := h
    injection h1 with h2 h3
    obtain ⟨t, ek⟩ := keyOf_some h2
    exact .cons ⟨t, ek⟩ (keys_vals h3)
theorem call_listW (hc : X.calm = true) (W : KTab X.K X.w X.mg x ks a) (hz : Nat.ble ks.length 1000000 = true := by rfl) : CallR X (.type "list") (rListW a ks) := by
  (intro pins s σ H xs us Q I r h)
  obtain ⟨rfl, q⟩ := h
  obtain ⟨u, rfl, rx⟩ := r.one
  cases rx
  obtain ⟨es, n, D, hk⟩ := W.d
  have ho := I.kIn _ _ D.at_
  have hl : es.size = ks.length := by
    have := congrArg List.length hk
    rw [List.length_map, Array.length_toList] at this
    rw [this]
    simp [He.keysIn]
  have hz2 : ks.length ≤ sizeLine := lsz hz
  refine PySem.W.kdl_call (kdl_raw D.low ⟨rfl, rfl, rfl⟩ rfl) (I.ok.hd hc) ho (by omega) fun h' tk acc' c' kp e it => ?_
  have ea : acc'.toList = es.toList.map (·.key) := by
    apply List.ext_getElem?
    intro j
    rw [List.getElem?_map]
    cases hjv : acc'.toList[j]? with
    | none =>
      have h1 := List.getElem?_eq_none_iff.mp hjv
      rw [Array.length_toList, it.1] at h1
      rw [List.getElem?_eq_none (by rw [Array.length_toList]; exact h1)]
      rfl
    | some v =>
      obtain ⟨en, hen, hv⟩ := it.2 j v (by rw [← Array.getElem?_toList]; exact hjv)
      rw [Array.getElem?_toList, hen, hv]
      rfl
  have rv : Vals (ks.map V.str) acc'.toList := by
    rw [ea]
    exact keys_vals hk
  refine ⟨.ref s.heap.objs.size, _, I.laid (t' := tk) (o := .lst (ks.map V.str)) kp (Nat.le_refl _) ?_, rfl, q _ (I.hok.fresh (Nat.le_refl _))⟩
  exact ⟨by rw [List.length_map]; exact hz2, acc'.toList, c', rv, by rw [Array.toArray_toList]; exact e⟩
end
def lensK : List (Str × V) := [("just", .int 2), ("some", .int 2), ("from", .int 3), ("mix", .int 2), ("all", .int 2), ("row", .int 4), ("turn", .int 3), ("keep", .int 4), ("let", .int 4), ("var", .int 2), ("upto", .int 2), ("times", .int 3), ("grow", .int 4), ("again", .int 1)]
def turnS : List String := ["neg", "double", "size", "total", "back", "sorted", "unlike", "head"]
def testS : List String := ["even", "odd", "above", "name", "full", "rising", "unlike"]
end K6
set_option maxHeartbeats 4000001
namespace K6
open L2 PySem PySem.Spec PyProof.Rows
def spB (f : D → Bool) : Sp := fun vs H Q _ => ∃ v d, vs = [v] ∧ Rep H v d ∧ ∀ H', Same H H' → Q (.bl (f d)) H'
theorem spB_len {f : D → Bool} : ∀ vs H Q E, spB f vs H Q E → vs.length = 1 := fun vs H Q E h => by
  obtain ⟨v, d, rfl, _⟩ := h
  rfl
section
variable {P : Program}
variable {w : World} {K : PySem.W.Frag} {mg : Str → Option Value} {base : Heap}
abbrev s_is_number : Stmt := top 31
abbrev N_is_number : List Str := ["thing"]
theorem sc_is_number : FnScope N_is_number ["thing"] (defScope s_is_number) := ⟨rfl, rfl, rfl, by decide +kernel, rfl, by decide +kernel, by decide +kernel⟩
theorem cl_is_number (F : Df K mg "is_number" s_is_number ["thing"]) (T : Tx mg) : Cl P w K mg base 1 "is_number" (spB isNum) := by
  refine F.cl sc_is_number spB_len (fun f cdv A outer s H vs Q E hr h => ?_)
  have nd := sc_is_number.nd
  obtain ⟨v, d, rfl, hd, k⟩ := h
  refine ⟨_, (pss_one (ps_ret (pe_and (pe_callB (call_isDK K) rfl T.n_isinstance bb_isinstance (pa_cons (pv 0) (pa_cons (pty (n := "int") rfl T.n_int bt_int) pa_nil))) (pe_one (pe_not (pe_callB (call_isDK K) rfl T.n_isinstance bb_isinstance (pa_cons (pv 0) (pa_cons (pty (n := "bool") rfl T.n_bool bt_bool) pa_nil)))))))), ?_⟩
  refine ⟨v, rfl, v, d, "int", rfl, by decide, hd, _, rfl, ?_⟩
  (refine ite2 (fun c => ?_) (fun c => ?_))
  · refine ⟨v, rfl, v, d, "bool", rfl, by decide, hd, _, rfl, ?_⟩
    have e : (!isTy "bool" d) = isNum d := by cases d <;> first | rfl | (exact absurd c (by decide +revert)) | trivial
    rw [e]
    exact k H (Same.refl H)
  · have e : false = isNum d := by cases d <;> first | rfl | exact absurd rfl c
    rw [e]
    exact k H (Same.refl H)
theorem small_cps : ("abcdefghijklmnopqrstuvwxyz" : Str).cps.toList = smallL := by decide +kernel
abbrev s_is_name : Stmt := top 20
abbrev N_is_name : List Str := ["thing", "letter"]
theorem sc_is_name : FnScope N_is_name ["thing"] (defScope s_is_name) := ⟨rfl, rfl, rfl, by decide +kernel, rfl, by decide +kernel, by decide +kernel⟩
theorem cl_is_name (F : Df K mg "is_name" s_is_name ["thing"]) (T : Tx mg) : Cl P w K mg base 1 "is_name" (spB isName) := by
  refine F.cl sc_is_name spB_len (fun f cdv A outer s H vs Q E hr h => ?_)
  have nd := sc_is_name.nd
  obtain ⟨v, d, rfl, hd, k⟩ := h
  refine ⟨_, (pss_cons (ps_if (PW.pt (pw_or (pt_not (pt_val (pe_callB (call_isDK K) rfl T.n_isinstance bb_isinstance (pa_cons (pv 0) (pa_cons (pty (n := "str") rfl T.n_str bt_str) pa_nil))))) (pw_or1 (pt_not (pt_chain op_le op_le pe_int (pe_callB (call_lenK K) rfl T.n_len PySem.boot_len (pa_cons (pv 0) pa_nil)) (C8.pe_gc rfl T.g_MOST_LETTERS)))))) (pss_one (ps_ret pe_bl)) pss_nil)
    (pss_one (ps_ret (pe_callB (call_allK K rfl) rfl T.n_all bb_all (pa_cons (pe_lc (own := [("letter", 1)]) rfl nd (pi_str (pv 0)) (blkOk_by (own := [("letter", 1)]) (N := N_is_name) (sc := defScope s_is_name) (by decide +kernel)) (fun _ _ _ _ _ => (pgn 1 nd)) (fun _ _ _ _ _ => pts_nil) (fun _ _ _ _ _ => (pe_cmpR op_in_sign (pv 1) (C8.pe_gc rfl T.g_SMALL) rfl))) pa_nil))))), ?_⟩
  refine ⟨v, rfl, v, d, "str", rfl, by decide, hd, _, rfl, ?_⟩
  cases hd with
  | str l hl =>
    refine iteF ?_
    refine ⟨_, rfl, .str (S l), (S l).length, rfl, ⟨sizes' (by rw [S_len]; exact hl), rfl⟩, ?_⟩
    rw [S_len]
    refine ⟨1, (l.length : Int), rfl, rfl, _, rfl, ?_⟩
    have out : ∀ b : Bool, isNm l = b → isName (.str l) = b := fun b e => e
    cases e1 : decide ((1 : Int) ≤ (l.length : Int)) with
    | false =>
      refine iteF ⟨_, rfl, iteT ?_⟩
      have e : false = isName (.str l) := by
        refine (out _ ?_).symm
        have := of_decide_eq_false e1
        unfold isNm
        rw [decide_eq_false (by omega), Bool.false_and]
      show Q (.bl false) H
      rw [e]
      exact k H (Same.refl H)
    | true =>
      have h1 := of_decide_eq_true e1
      refine iteT ⟨(l.length : Int), 8, rfl, rfl, _, rfl, ?_⟩
      cases e2 : decide ((l.length : Int) ≤ 8) with
      | false =>
        refine iteT ?_
        have e : false = isName (.str l) := by
          refine (out _ ?_).symm
          have := of_decide_eq_false e2
          unfold isNm
          rw [decide_eq_false (show ¬ l.length ≤ 8 by omega), Bool.false_and, Bool.and_false]
        show Q (.bl false) H
        rw [e]
        exact k H (Same.refl H)
      | true =>
        have h2 := of_decide_eq_true e2
        refine iteF ?_
        refine ⟨_, rfl, S l, rfl, fun Dd hD => lc_it walk_str (fun i H' => Same H H' ∧ H' Dd = some (.lst ((l.take i).map fun c => V.bl (decide (c ∈ smallL)))))
          ⟨(Same.refl H).new hD, upd_same⟩ (fun _ _ _ _ => trivial) ?_ ?_⟩
        · rintro i x H1 H2 hi ⟨s1, d1⟩ ⟨rfl, c, hc, rfl⟩
          refine ⟨rfl, _, rfl, c, _, rfl, rfl, _, d1, ?_, (s1.put hD), ?_⟩
          · refine sizes ?_
            rw [List.length_map, List.length_take]
            omega
          · rw [upd_same, small_cps, take_map_succ (fun c => V.bl (decide (c ∈ smallL)))]
            rw [← Array.getElem?_toList] at hc
            exact hc
        · rintro H1 ⟨s1, d1⟩
          refine ⟨Dd, l.map fun c => decide (c ∈ smallL), rfl, .inl (.inl ?_), ?_⟩
          · rw [d1]
            congr 2
            rw [List.map_map, List.take_of_length_le (by show l.length ≤ (S l).cps.toList.length; exact Nat.le_refl _)]
            rfl
          · have e : ((l.map fun c => decide (c ∈ smallL)).all id) = isName (.str l) := by
              refine (out _ ?_).symm
              unfold isNm
              rw [decide_eq_true (by omega), decide_eq_true (by omega), Bool.true_and, Bool.true_and, List.all_map]
              rfl
            rw [e]
            exact k H1 s1
  | _ =>
    refine iteT ?_
    exact k H (Same.refl H)
abbrev s_is_form : Stmt := top 32
abbrev N_is_form : List Str := ["thing"]
theorem sc_is_form : FnScope N_is_form ["thing"] (defScope s_is_form) := ⟨rfl, rfl, rfl, by decide +kernel, rfl, by decide +kernel, by decide +kernel⟩
theorem abs_lt (i b : Int) : decide ((if i < 0 then -i else i) < b) = (decide (-b < i) && decide (i < b)) := by
  by_cases h : i < 0
  · rw [if_pos h]
    by_cases h2 : -b < i
    · rw [decide_eq_true (show -i < b by omega), decide_eq_true h2, decide_eq_true (show i < b by omega)]
      rfl
    · rw [decide_eq_false (show ¬ -i < b by omega), decide_eq_false h2]
      rfl
  · rw [if_neg h]
    by_cases h2 : i < b
    · rw [decide_eq_true h2, decide_eq_true (show -b < i by omega)]
      rfl
    · rw [decide_eq_false h2, Bool.and_false]
theorem cl_is_form (F : Df K mg "is_form" s_is_form ["thing"]) (T : Tx mg) (c_is_number : Cl P w K mg base 1 "is_number" (spB isNum)) (c_is_name : Cl P w K mg base 1 "is_name" (spB isName)) : Cl P w K mg base 2 "is_form" (spB (gd (10 ^ 60))) := by
  refine F.cl sc_is_form spB_len (fun f cdv A outer s H vs Q E hr h => ?_)
  have nd := sc_is_form.nd
  obtain ⟨v, d, rfl, hd, k⟩ := h
  refine ⟨_, (pss_cons (ps_if (pt_val (pf c_is_number hr (by omega) rfl (pa_cons (pv 0) pa_nil))) (pss_one (ps_ret (pe_cmpR op_lt (pe_callB call_abs rfl T.n_abs bb_abs (pa_cons (pv 0) pa_nil)) (pe_op op_pow pe_int pe_int) (nomark _)))) pss_nil)
    (pss_one (ps_ret (pe_or (pf c_is_name hr (by omega) rfl (pa_cons (pv 0) pa_nil)) (pe_one (pe_callB (call_isDK K) rfl T.n_isinstance bb_isinstance (pa_cons (pv 0) (pa_cons (pty (n := "tuple") rfl T.n_tuple bt_tuple) pa_nil)))))))), ?_⟩
  refine ⟨v, rfl, v, d, rfl, hd, fun H1 s1 => ⟨_, rfl, ?_⟩⟩
  cases d with
  | int i =>
    cases hd
    refine iteT ⟨_, rfl, i, rfl, 10, 60, rfl, rfl, ⟨by decide, by decide, by decide⟩, _, _, rfl, rfl, ?_⟩
    have e : decide ((if i < 0 then -i else i) < (10 : Int) ^ (60 : Int).toNat) = gd (10 ^ 60) (.int i) := abs_lt i _
    show Q (.bl (decide ((if i < 0 then -i else i) < (10 : Int) ^ (60 : Int).toNat))) H1
    rw [e]
    exact k H1 s1
  | str l =>
    refine iteF ⟨v, rfl, v, _, rfl, hd.same s1, fun H2 s2 => ⟨_, rfl, ?_⟩⟩
    have e : gd (10 ^ 60) (.str l) = isName (.str l) := rfl
    rw [e] at k
    cases e2 : isName (.str l) with
    | true =>
      rw [e2] at k
      exact iteT (k H2 (s1.trans s2))
    | false =>
      rw [e2] at k
      exact iteF ⟨v, rfl, v, .str l, "tuple", rfl, by decide, hd.same (s1.trans s2), k H2 (s1.trans s2)⟩
  | bl b => exact iteF ⟨v, rfl, v, _, rfl, hd.same s1, fun H2 s2 => ⟨_, rfl, iteF ⟨v, rfl, v, .bl b, "tuple", rfl, by decide, hd.same (s1.trans s2), k H2 (s1.trans s2)⟩⟩⟩
  | non => exact iteF ⟨v, rfl, v, _, rfl, hd.same s1, fun H2 s2 => ⟨_, rfl, iteF ⟨v, rfl, v, .non, "tuple", rfl, by decide, hd.same (s1.trans s2), k H2 (s1.trans s2)⟩⟩⟩
  | oth => exact iteF ⟨v, rfl, v, _, rfl, hd.same s1, fun H2 s2 => ⟨_, rfl, iteF ⟨v, rfl, v, .oth, "tuple", rfl, by decide, hd.same (s1.trans s2), k H2 (s1.trans s2)⟩⟩⟩
  | tup ds => exact iteF ⟨v, rfl, v, _, rfl, hd.same s1, fun H2 s2 => ⟨_, rfl, iteF ⟨v, rfl, v, .tup ds, "tuple", rfl, by decide, hd.same (s1.trans s2), k H2 (s1.trans s2)⟩⟩⟩
def WayR (H : Hp) (v : V) (way : List Nat) : Prop := ∃ a, v = .ref a ∧ H a = some (.tup (way.map fun k : Nat => V.int (k : Int)))
theorem WayR.gr {H H' : Hp} {v : V} {way : List Nat} (r : WayR H v way) (g : Gr H H') : WayR H' v way := by
  obtain ⟨a, e, h⟩ := r
  exact ⟨a, e, g.tup _ _ h⟩
def WayO (H : Hp) (v : V) : Option (List Nat) → Prop
  | none => v = .non
  | some way => WayR H v way
def ItemR (H : Hp) (v : V) (it : It) : Prop := ∃ p wv pv, v = .ref p ∧ H p = some (.tup [wv, pv]) ∧ WayR H wv it.1 ∧ Rep H pv it.2
theorem ItemR.gr {H H' : Hp} {v : V} {it : It} (r : ItemR H v it) (g : Gr H H') : ItemR H' v it := by
  obtain ⟨p, wv, pv, e, h, hw, hp⟩ := r
  exact ⟨p, wv, pv, e, g.tup _ _ h, hw.gr g, hp.gr g⟩
def sp_first_bad : Sp := fun vs H Q _ => ∃ v d, ∃ most : Nat, vs = [v, .int most] ∧ Rep H v d ∧ most ≤ 300 ∧ ∀ H' r, Same H H' → WayO H' r (fb (gd (10 ^ 60)) most most [([], d)]) → Q r H'
abbrev s_first_bad : Stmt := top 33
abbrev N_first_bad : List Str := ["thing", "most", "left", "met", "way", "part", "number"]
theorem sc_first_bad : FnScope N_first_bad ["thing", "most"] (defScope s_first_bad) := ⟨rfl, rfl, rfl, by decide +kernel, rfl, by decide +kernel, by decide +kernel⟩
theorem cl_first_bad (F : Df K mg "first_bad" s_first_bad ["thing", "most"]) (T : Tx mg) (c_is_form : Cl P w K mg base 2 "is_form" (spB (gd (10 ^ 60)))) : Cl P w K mg base 3 "first_bad" sp_first_bad := by
  refine F.cl sc_first_bad (fun vs H Q E h => ?_) (fun f cdv A outer s H vs Q E hr h => ?_)
  · obtain ⟨v, d, most, rfl, _⟩ := h
    rfl
  have nd := sc_first_bad.nd
  obtain ⟨v, d, most, rfl, hd, hm, k⟩ := h
  refine ⟨_, (pss_cons (pset 2 nd (pe_lst (pa_cons (pe_tup (pa_cons (pe_tup pa_nil) (pa_cons (pv 0) pa_nil))) pa_nil)))
    (pss_cons (pset 3 nd pe_int)
    (pss_cons (ps_while (passes_of rfl) (pt_cmpR (op_neEK K hr) (pv 2) (pe_lst pa_nil) (nomark _)) (pss_cons (ps_asg (pe_bm0 PySem.F.plainAttrs_list PySem.F.slot_list_pop PySem.F.type_list_pop mt_pop (pv 2)) (pg_tupK (n := 2) K rfl (pgs_cons (pgn 4 nd) (pgs_cons (pgn 5 nd) pgs_nil))))
      (pss_cons (ps_if (PW.pt (pw_or (pt_cmpR op_eq (pv 3) (pv 1) (nomark _)) (pw_or (pt_cmpR op_gt (pe_callB (call_lenK K) rfl T.n_len PySem.boot_len (pa_cons (pv 4) pa_nil)) (C8.pe_gc rfl T.g_MOST_DEEP) (nomark _)) (pw_or1 (pt_not (pt_val (pf c_is_form hr (by omega) rfl (pa_cons (pv 5) pa_nil)))))))) (pss_one (ps_ret (pv 4))) pss_nil)
      (pss_cons (ps_aug (i := 3) nd rfl (Or.inl rfl) pe_int ip_add)
      (pss_one (ps_if (pt_val (pe_callB (call_isDK K) rfl T.n_isinstance bb_isinstance (pa_cons (pv 5) (pa_cons (pty (n := "tuple") rfl T.n_tuple bt_tuple) pa_nil)))) (pss_one (ps_expr (pe_bm PySem.F.plainAttrs_list PySem.F.slot_list_extend PySem.F.type_list_extend mt_extend (pv 2) (pa_cons (pe_lc (own := [("number", 6)]) rfl nd (pi_rr rfl T.n_reversed rfl T.n_range (pe_callB (call_min2 rfl) rfl T.n_min bb_min (pa_cons (pe_callB (call_lenK K) rfl T.n_len PySem.boot_len (pa_cons (pv 5) pa_nil)) (pa_cons (pv 1) pa_nil)))) (blkOk_by (own := [("number", 6)]) (N := N_first_bad) (sc := defScope s_first_bad) (by decide +kernel)) (fun _ _ _ _ _ => (pgn 6 nd)) (fun _ _ _ _ _ => pts_nil) (fun _ _ _ _ _ => (pe_tup (pa_cons (pe_op op_catW (pv 4) (pe_tup (pa_cons (pv 6) pa_nil))) (pa_cons (pe_ix (ix_tupK K) (pv 5) (pv 6) (fun _ _ => rfl)) pa_nil))))) pa_nil)))) pss_nil))))))
    (pss_one (ps_ret pe_non))))), ?_⟩
  refine ⟨lsz, fun a0 h0 => ⟨v, rfl, lsz, fun a1 h1 => ⟨lsz, fun L hL => ?_⟩⟩⟩
  have s0 : Same H (upd (upd (upd H a0 (.tup [])) a1 (.tup [.ref a0, v])) L (.lst [.ref a1])) := (((Same.refl H).new h0).new h1).new hL
  have nL : H L = none := s0.free_of (((Same.refl H).new h0).new h1) hL
  refine ⟨fun m σ' H' => ∃ (its : List It) (xs : List V) (w p n : Option V), σ' = [some v, some (.int most), some (.ref L), some (.int ((most - m : Nat) : Int)), w, p, n] ∧ m ≤ most ∧ Same H H' ∧ H' L = some (.lst xs) ∧
    All2 (ItemR H') xs.reverse its ∧ xs.length ≤ 1 + (most - m) * 300 ∧ fb (gd (10 ^ 60)) most m its = fb (gd (10 ^ 60)) most most [([], d)], ⟨most, [([], d)], [.ref a1], none, none, none, ?_, Nat.le_refl _, s0, upd_same, ?_, by simp, rfl⟩, ?_⟩
  · rw [Nat.sub_self]
    rfl
  · refine All2.one ⟨a1, .ref a0, v, rfl, ?_, ⟨a0, rfl, ?_⟩, hd.same s0⟩
    · rw [upd_ne (ne_of_none upd_same hL), upd_same]
    · rw [up_ne (up_ne upd_same h1) hL]
      rfl
  rintro m σ' H' ⟨its, xs, w, p, n, rfl, hmm, s1, eL, ha, hz, hf⟩
  refine ⟨_, rfl, lsz, fun q hq => ⟨L, q, xs, rfl, rfl, .inl (.inl (up_ne eL hq)), .inl (.inl upd_same), _, rfl, ?_⟩⟩
  have sq : Same H (upd H' q (.lst [])) := s1.new hq
  cases its with
  | nil =>
    have e : xs = [] := by
      have := ha.nil_right
      simpa using this
    subst e
    refine iteF (k _ .non sq ?_)
    rw [← hf]
    cases m <;> rfl
  | cons it its =>
    obtain ⟨ys, x, rfl⟩ : ∃ ys x, xs = ys ++ [x] := by
      have hne : xs ≠ [] := fun e => by
        rw [e] at ha
        have := ha.1
        simp at this
      exact ⟨xs.dropLast, xs.getLast hne, (List.dropLast_concat_getLast hne).symm⟩
    have ha2 : All2 (ItemR H') (x :: ys.reverse) (it :: its) := by
      rw [List.reverse_append] at ha
      exact ha
    obtain ⟨pa, wv, pv, rfl, hpa, hw, hp⟩ := ha2.head
    have hys := ha2.tail
    have eq : ((ys ++ [V.ref pa]).isEmpty != true) = true := by cases ys <;> rfl
    rw [eq]
    refine iteT ⟨_, fun _ _ h => h, ?_⟩
    have neq : L ≠ q := ne_of_none eL hq
    have npa : pa ≠ L := ne_of hpa eL (by intro z; cases z)
    refine ⟨_, rfl, .inl ⟨rfl, _, .inl (.inl (up_ne eL hq))⟩, L, _, .ref pa, rfl, rfl, up_ne eL hq, by simp, ?_⟩
    rw [List.dropLast_concat]
    have s2 : Same H (upd (upd H' q (.lst [])) L (.lst ys)) := sq.put nL
    have g2 : Gr H' (upd (upd H' q (.lst [])) L (.lst ys)) := (Gr.of ((Same.refl H').new hq)).trans (gr_put (up_ne eL hq))
    have e2 : (upd (upd H' q (.lst [])) L (.lst ys)) pa = some (.tup [wv, pv]) := g2.tup _ _ hpa
    have eL2 : (upd (upd H' q (.lst [])) L (.lst ys)) L = some (.lst ys) := upd_same
    generalize (upd (upd H' q (.lst [])) L (.lst ys)) = H2 at *
    refine ⟨pa, [wv, pv], rfl, .inl (.inl e2), rfl, wv, [pv], rfl, pv, [], rfl, rfl, ?_⟩
    have hw2 := hw.gr g2
    have hp2 := hp.gr g2
    obtain ⟨wa, rfl, ewa⟩ := id hw2
    have out : (m = 0 ∨ 5 < it.1.length ∨ gd (10 ^ 60) it.2 = false) → ∀ H3, Same H2 H3 → Q (.ref wa) H3 := fun c H3 s3 => by
      refine k H3 _ (s2.trans s3) ?_
      rw [← hf]
      have e : fb (gd (10 ^ 60)) most m (it :: its) = some it.1 := by
        cases m with
        | zero => rfl
        | succ m => exact if_pos (by simpa using c)
      rw [e]
      exact hw2.gr (.of s3)
    (refine ⟨_, rfl, _, rfl, rfl, _, rfl, ?_⟩)
    cases e1 : decide (V.int ((most - m : Nat) : Int) = V.int (most : Int)) with
    | true =>
      have hm0 : m = 0 := by
        have := V.int.inj (of_decide_eq_true e1)
        omega
      exact iteT ⟨_, rfl, out (.inl hm0) H2 (Same.refl _)⟩
    | false =>
    have hm0 : m ≠ 0 := fun z => by
      subst z
      exact of_decide_eq_false e1 rfl
    refine iteF ⟨_, rfl, _, it.1.length, rfl, .inr ⟨_, .inl (.inl ewa), by simp⟩, (it.1.length : Int), 5, rfl, rfl, _, rfl, ?_⟩
    cases e2 : decide ((5 : Int) < (it.1.length : Int)) with
    | true => exact iteT ⟨_, rfl, out (.inr (.inl (by have := of_decide_eq_true e2; omega))) H2 (Same.refl _)⟩
    | false =>
    have h5 : ¬ 5 < it.1.length := fun z => of_decide_eq_false e2 (by omega)
    refine iteF ⟨pv, rfl, pv, it.2, rfl, hp2, fun H3 s3 => ⟨_, rfl, ?_⟩⟩
    cases e3 : gd (10 ^ 60) it.2 with
    | false => exact iteT ⟨_, rfl, out (.inr (.inr e3)) H3 s3⟩
    | true =>
    obtain ⟨m, rfl⟩ : ∃ m', m = m' + 1 := ⟨m - 1, by omega⟩
    have hf2 : fb (gd (10 ^ 60)) most m (kids most it ++ its) = fb (gd (10 ^ 60)) most most [([], d)] := by
      rw [← hf]
      exact (if_neg (by rintro (z | z) <;> first | exact h5 z | (rw [e3] at z; cases z))).symm
    have hmet : ((most - (m + 1) : Nat) : Int) + 1 = ((most - m : Nat) : Int) := by omega
    have sx : ys.length ≤ (most - (m + 1)) * 300 := by
      rw [List.length_append, List.length_singleton] at hz
      omega
    have g3 : Gr H' H3 := g2.trans (.of s3)
    have eL3 := s3 _ _ eL2
    refine iteF ⟨_, rfl, _, _, rfl, rfl, ?_⟩
    have hp3 := hp2.same s3
    refine ⟨pv, rfl, pv, it.2, "tuple", rfl, by decide, hp3, _, rfl, ?_⟩
    cases e4 : isTy "tuple" it.2 with
    | false =>
      refine iteF ⟨m, Nat.lt_succ_self m, its, ys, _, _, _, by rw [← hmet]; rfl, by omega, s2.trans s3, eL3, hys.mono fun x d r => r.gr g3, by omega, ?_⟩
      rw [← hf2, kids_leaf, List.nil_append]
      intro ds z
      rw [isTy_tuple, z] at e4
      cases e4
    | true =>
      obtain ⟨way, di⟩ := it
      obtain ⟨ds, rfl⟩ := isTup_inv ((isTy_tuple di).symm.trans e4)
      obtain ⟨b, vs, rfl, eb, hvs⟩ := hp3.tup_inv
      have ewa3 := s3 _ _ ewa
      refine iteT ⟨_, rfl, .inl ⟨rfl, _, .inl (.inl eL3)⟩, ?_⟩
      have emin : (if (most : Int) < ((vs.length : Nat) : Int) then (most : Int) else ((vs.length : Nat) : Int)) = ((min ds.length most : Nat) : Int) := by
        rw [hvs.1]
        split <;> omega
      refine ⟨_, rfl, .ref b, vs.length, rfl, .inr ⟨vs, .inl (.inl eb), rfl⟩, _, rfl, (vs.length : Int), (most : Int), rfl, ?_⟩
      refine ⟨_, rfl, by omega, by omega, by rw [emin]; omega, by rw [emin]; omega, fun C hC => lc_it walk_rangeC (CPv ItemR (kids most (way, .tup ds)).reverse H3 C) (cpv_start hC) (fun _ _ _ _ => trivial) ?_ ?_⟩
      · rintro i x H4 H5 hi pv4 ⟨rfl, rfl⟩
        rw [emin] at hi
        have hi2 : i < min ds.length most := by omega
        have ej : (0 + ((((if (most : Int) < ((vs.length : Nat) : Int) then (most : Int) else ((vs.length : Nat) : Int)) - 0).toNat : Nat) : Int) - 1 + (i : Int) * -1) = ((min ds.length most - 1 - i : Nat) : Int) := by
          rw [emin]
          omega
        have hj : min ds.length most - 1 - i < ds.length := by omega
        obtain ⟨xj, hxj, rxj⟩ := hvs.get (List.getElem?_eq_getElem hj)
        have hk := kids_rev_get (way := way) hi2
        generalize min ds.length most - 1 - i = j at *
        have s5 := pv4.1
        have hz5 : (way.map fun k : Nat => V.int (k : Int)).length + 1 ≤ sizeLine := by
          rw [List.length_map]
          exact sizes' (by show way.length + 1 ≤ 1000000; have : ¬ 5 < way.length := h5; omega)
        refine ⟨rfl, _, rfl, _, rfl, lsz, fun t ht => ⟨wa, t, _, _, rfl, rfl, up_ne (s5 _ _ ewa3) ht, upd_same, hz5, fun r H6 s6 er => ⟨_, rfl, _, rfl, b, vs, _, xj, rfl, rfl, .inl (.inl (s6 _ _ (up_ne (s5 _ _ eb) ht))), ?_, lsz, fun p2 hp2 => ?_⟩⟩⟩
        · show atI vs _ = some xj
          rw [ej]
          exact atI_nat hxj
        · have s7 : Same H5 (upd H6 p2 (.tup [.ref r, xj])) := (((Same.refl H5).new ht).trans s6).new hp2
          refine cpv_fin (fun _ _ _ _ g r => r.gr g) hC (by rw [List.length_reverse, kids_length]; omega) hk pv4 s7 ⟨p2, .ref r, xj, rfl, upd_same, ⟨r, rfl, ?_⟩, ?_⟩
          · rw [up_ne er hp2, List.map_append]
            show some (HO.tup (_ ++ [V.int _])) = _
            rw [ej]
            rfl
          · have e : ds.getD j .non = ds[j] := by
              rw [List.getD_eq_getElem?_getD, List.getElem?_eq_getElem hj]
              rfl
            rw [e]
            exact rxj.same (s5.trans s7)
      · intro H4 pv4
        obtain ⟨s4, zs, ezs, azs⟩ := cpv_done (by rw [List.length_reverse, kids_length, emin]; omega) pv4
        have eL4 := s4 _ _ eL3
        have lz : zs.length ≤ 300 := by
          rw [azs.1, List.length_reverse, kids_length]
          omega
        have nC : L ≠ C := ne_of_none eL3 hC
        refine ⟨L, C, ys, zs, rfl, rfl, eL4, ezs, sizes' (by omega), m, Nat.lt_succ_self m, kids most (way, .tup ds) ++ its, ys ++ zs, _, _, _, by rw [← hmet]; rfl, by omega, ((s2.trans s3).trans s4).put nL, upd_same, ?_, ?_, hf2⟩
        · have g5 : Gr H4 (upd H4 L (.lst (ys ++ zs))) := gr_put eL4
          rw [List.reverse_append]
          have r1 := (azs.mono fun x d r => r.gr g5).rev
          rw [List.reverse_reverse] at r1
          exact r1.app (hys.mono fun x d r => r.gr ((g3.trans (.of s4)).trans g5))
        · rw [List.length_append]
          omega
end
end K6
set_option maxHeartbeats 4000001
namespace K6
open L2 PySem PySem.Spec PyProof.Rows
def amg (lo hi : Int) : D → Bool
  | .int i => decide (lo ≤ i) && decide (i ≤ hi)
  | _ => false
def mny (lo hi : Int) : D → Bool
  | .tup ds => decide (lo ≤ (ds.length : Int)) && decide ((ds.length : Int) ≤ hi)
  | _ => false
def sp_among : Sp := fun vs H Q _ => ∃ v d lo hi, vs = [v, .int lo, .int hi] ∧ Rep H v d ∧ ∀ H', Same H H' → Q (.bl (amg lo hi d)) H'
def sp_many : Sp := fun vs H Q _ => ∃ v d lo hi, vs = [v, .int lo, .int hi] ∧ Rep H v d ∧ ∀ H', Same H H' → Q (.bl (mny lo hi d)) H'
section
variable {P : Program}
variable {w : World} {K : PySem.W.Frag} {mg : Str → Option Value} {base : Heap}
abbrev s__law_is_number : Stmt := top 106
abbrev N__law_is_number : List Str := ["_law_thing_here"]
theorem sc__law_is_number : FnScope N__law_is_number ["_law_thing_here"] (defScope s__law_is_number) := ⟨rfl, rfl, rfl, by decide +kernel, rfl, by decide +kernel, by decide +kernel⟩
theorem cl__law_is_number (F : Df K mg "_law_is_number" s__law_is_number ["_law_thing_here"]) (T : Tx mg) : Cl P w K mg base 1 "_law_is_number" (spB isNum) := by
  refine F.cl sc__law_is_number spB_len (fun f cdv A outer s H vs Q E hr h => ?_)
  have nd := sc__law_is_number.nd
  obtain ⟨v, d, rfl, hd, k⟩ := h
  refine ⟨_, (pss_one (ps_ret (pe_and (pe_callB (call_isDK K) rfl T.n_isinstance bb_isinstance (pa_cons (pv 0) (pa_cons (pty (n := "int") rfl T.n_int bt_int) pa_nil))) (pe_one (pe_not (pe_callB (call_isDK K) rfl T.n_isinstance bb_isinstance (pa_cons (pv 0) (pa_cons (pty (n := "bool") rfl T.n_bool bt_bool) pa_nil)))))))), ?_⟩
  refine ⟨v, rfl, v, d, "int", rfl, by decide, hd, _, rfl, ?_⟩
  (refine ite2 (fun c => ?_) (fun c => ?_))
  · refine ⟨v, rfl, v, d, "bool", rfl, by decide, hd, _, rfl, ?_⟩
    have e : (!isTy "bool" d) = isNum d := by cases d <;> first | rfl | (exact absurd c (by decide +revert)) | trivial
    rw [e]
    exact k H (Same.refl H)
  · have e : false = isNum d := by cases d <;> first | rfl | exact absurd rfl c
    rw [e]
    exact k H (Same.refl H)
abbrev s__law_is_name : Stmt := top 105
abbrev N__law_is_name : List Str := ["_law_thing_here", "_law_sign"]
theorem sc__law_is_name : FnScope N__law_is_name ["_law_thing_here"] (defScope s__law_is_name) := ⟨rfl, rfl, rfl, by decide +kernel, rfl, by decide +kernel, by decide +kernel⟩
theorem isNm_filter (l : List Nat) : ((l.filter fun c => !decide (c ∈ smallL)).map fun c => V.str ⟨#[c]⟩).isEmpty = l.all fun c => decide (c ∈ smallL) := by
  induction l with
  | nil => rfl
  | cons c r ih =>
    rw [List.filter_cons, List.all_cons]
    cases e : decide (c ∈ smallL) with
    | true =>
      rw [if_neg (by simp), Bool.true_and]
      exact ih
    | false =>
      rw [if_pos (by simp), Bool.false_and]
      rfl
theorem filter_take_succ {α : Type} {l : List α} {i : Nat} {c : α} (p : α → Bool) (h : l[i]? = some c) : (l.take (i + 1)).filter p = (l.take i).filter p ++ (if p c then [c] else []) := by
  rw [List.take_succ, h, List.filter_append]
  simp only [Option.toList_some]
  congr 1
  cases e : p c <;> simp [e]
theorem cl__law_is_name (F : Df K mg "_law_is_name" s__law_is_name ["_law_thing_here"]) (T : Tx mg) : Cl P w K mg base 1 "_law_is_name" (spB isName) := by
  refine F.cl sc__law_is_name spB_len (fun f cdv A outer s H vs Q E hr h => ?_)
  have nd := sc__law_is_name.nd
  obtain ⟨v, d, rfl, hd, k⟩ := h
  refine ⟨_, (pss_cons (ps_if (PW.pt (pw_or (pt_not (pt_val (pe_callB (call_isDK K) rfl T.n_isinstance bb_isinstance (pa_cons (pv 0) (pa_cons (pty (n := "str") rfl T.n_str bt_str) pa_nil))))) (pw_or (pt_cmpR op_eq (pv 0) pe_str (nomark _)) (pw_or1 (pt_cmpR op_gt (pe_callB (call_lenK K) rfl T.n_len PySem.boot_len (pa_cons (pv 0) pa_nil)) pe_int (nomark _)))))) (pss_one (ps_ret pe_bl)) pss_nil)
    (pss_one (ps_ret (pe_cmpR (op_eqEK K hr) (pe_lc (own := [("_law_sign", 1)]) rfl nd (pi_str (pv 0)) (blkOk_by (own := [("_law_sign", 1)]) (N := N__law_is_name) (sc := defScope s__law_is_name) (by decide +kernel)) (fun _ _ _ _ _ => (pgn 1 nd)) (fun _ _ _ _ _ => (pts_one (pt_cmpR op_notIn_sign (pv 1) pe_str rfl))) (fun _ _ _ _ _ => (pv 1))) (pe_lst pa_nil) (nomark _))))), ?_⟩
  refine ⟨v, rfl, v, d, "str", rfl, by decide, hd, _, rfl, ?_⟩
  cases hd with
  | str l hl =>
    refine iteF ⟨_, rfl, rfl, _, rfl, ?_⟩
    cases e1 : decide (V.str (S l) = V.str "") with
    | true =>
      refine iteT ?_
      have e : l = [] := by
        have h1 : S l = ("" : Str) := V.str.inj (of_decide_eq_true e1)
        exact SX.S_inj (a := l) (b := []) h1
      subst e
      exact k H (Same.refl H)
    | false =>
      have hne : 1 ≤ l.length := by
        cases l with
        | nil => exact absurd rfl (of_decide_eq_false e1)
        | cons c r => simp
      refine iteF ⟨_, rfl, .str (S l), (S l).length, rfl, ⟨sizes' (by rw [S_len]; exact hl), rfl⟩, ?_⟩
      rw [S_len]
      refine ⟨(l.length : Int), 8, rfl, rfl, _, rfl, ?_⟩
      cases e2 : decide ((8 : Int) < (l.length : Int)) with
      | true =>
        refine iteT ?_
        have e : false = isName (.str l) := by
          have := of_decide_eq_true e2
          show false = isNm l
          unfold isNm
          rw [decide_eq_false (show ¬ l.length ≤ 8 by omega), Bool.false_and, Bool.and_false]
        show Q (.bl false) H
        rw [e]
        exact k H (Same.refl H)
      | false =>
        have h2 := of_decide_eq_false e2
        refine iteF ?_
        refine ⟨_, rfl, S l, rfl, fun C hC => lc_it walk_str (fun i H' => Same H H' ∧ H' C = some (.lst (((l.take i).filter fun c => !decide (c ∈ smallL)).map fun c => V.str ⟨#[c]⟩)))
          ⟨(Same.refl H).new hC, upd_same⟩ (fun _ _ _ _ => trivial) ?_ ?_⟩
        · rintro i x H1 H2 hi ⟨s1, d1⟩ ⟨rfl, c, hc, rfl⟩
          have hc2 : l[i]? = some c := by
            rw [← Array.getElem?_toList] at hc
            exact hc
          have hft := filter_take_succ (fun c => !decide (c ∈ smallL)) hc2
          refine ⟨rfl, _, rfl, c, _, rfl, rfl, _, rfl, ?_⟩
          rw [small_cps]
          cases e3 : decide (c ∈ smallL) with
          | true =>
            refine iteF ⟨s1, ?_⟩
            rw [d1, hft, e3]
            simp
          | false =>
            refine iteT ⟨_, rfl, _, d1, ?_, s1.put hC, ?_⟩
            · refine sizes ?_
              rw [List.length_map]
              have h3 := List.length_filter_le (fun c => !decide (c ∈ smallL)) (l.take i)
              rw [List.length_take] at h3
              omega
            · rw [upd_same, hft, e3]
              simp
        · rintro H1 ⟨s1, d1⟩
          have el : l.take (S l).cps.size = l := List.take_of_length_le (Nat.le_refl _)
          rw [el] at d1
          refine ⟨lsz, fun q hq => ⟨C, q, _, rfl, rfl, .inl (.inl (up_ne d1 hq)), .inl (.inl upd_same), ?_⟩⟩
          rw [isNm_filter]
          have e : ((l.all fun c => decide (c ∈ smallL)) != false) = isName (.str l) := by
            show _ = isNm l
            unfold isNm
            rw [decide_eq_true hne, decide_eq_true (show l.length ≤ 8 by omega), Bool.true_and, Bool.true_and]
            cases l.all fun c => decide (c ∈ smallL) <;> rfl
          rw [e]
          exact k _ (s1.new hq)
  | _ =>
    refine iteT ?_
    exact k H (Same.refl H)
abbrev s_is_among : Stmt := top 70
abbrev N_is_among : List Str := ["thing", "least", "most"]
theorem sc_is_among : FnScope N_is_among ["thing", "least", "most"] (defScope s_is_among) := ⟨rfl, rfl, rfl, by decide +kernel, rfl, by decide +kernel, by decide +kernel⟩
theorem cl_is_among (F : Df K mg "is_among" s_is_among ["thing", "least", "most"]) (T : Tx mg) (c_is_number : Cl P w K mg base 1 "is_number" (spB isNum)) : Cl P w K mg base 2 "is_among" sp_among := by
  refine F.cl sc_is_among (fun vs H Q E h => by obtain ⟨_, _, _, _, rfl, _⟩ := h; rfl) (fun f cdv A outer s H vs Q E hr h => ?_)
  have nd := sc_is_among.nd
  obtain ⟨v, d, lo, hi, rfl, hd, k⟩ := h
  refine ⟨_, (pss_one (ps_ret (pe_and (pf c_is_number hr (by omega) rfl (pa_cons (pv 0) pa_nil)) (pe_one (pe_chain op_le op_le (pv 1) (pv 0) (pv 2)))))), ?_⟩
  refine ⟨v, rfl, v, d, rfl, hd, fun H1 s1 => ⟨_, rfl, ?_⟩⟩
  cases hd with
  | int i =>
    refine iteT ⟨_, rfl, _, rfl, lo, i, rfl, rfl, _, rfl, ?_⟩
    have k1 : Q (.bl (decide (lo ≤ i) && decide (i ≤ hi))) H1 := k H1 s1
    cases e : decide (lo ≤ i) with
    | true =>
      rw [e] at k1
      exact iteT ⟨_, rfl, i, hi, rfl, rfl, k1⟩
    | false =>
      rw [e] at k1
      exact iteF k1
  | _ => exact iteF (k H1 s1)
abbrev s__law_among : Stmt := top 108
abbrev N__law_among : List Str := ["_law_thing_here", "_law_least", "_law_most"]
theorem sc__law_among : FnScope N__law_among ["_law_thing_here", "_law_least", "_law_most"] (defScope s__law_among) := ⟨rfl, rfl, rfl, by decide +kernel, rfl, by decide +kernel, by decide +kernel⟩
theorem cl__law_among (F : Df K mg "_law_among" s__law_among ["_law_thing_here", "_law_least", "_law_most"]) (T : Tx mg) (c__law_is_number : Cl P w K mg base 1 "_law_is_number" (spB isNum)) : Cl P w K mg base 2 "_law_among" sp_among := by
  refine F.cl sc__law_among (fun vs H Q E h => by obtain ⟨_, _, _, _, rfl, _⟩ := h; rfl) (fun f cdv A outer s H vs Q E hr h => ?_)
  have nd := sc__law_among.nd
  obtain ⟨v, d, lo, hi, rfl, hd, k⟩ := h
  refine ⟨_, (pss_one (ps_ret (pe_and (pf c__law_is_number hr (by omega) rfl (pa_cons (pv 0) pa_nil)) (pe_and (pe_cmpR op_le (pv 1) (pv 0) (nomark _)) (pe_one (pe_cmpR op_le (pv 0) (pv 2) (nomark _))))))), ?_⟩
  refine ⟨v, rfl, v, d, rfl, hd, fun H1 s1 => ⟨_, rfl, ?_⟩⟩
  cases hd with
  | int i =>
    refine iteT ⟨_, rfl, _, rfl, lo, i, rfl, rfl, _, rfl, ?_⟩
    have k1 : Q (.bl (decide (lo ≤ i) && decide (i ≤ hi))) H1 := k H1 s1
    cases e : decide (lo ≤ i) with
    | true =>
      rw [e] at k1
      exact iteT ⟨_, rfl, _, rfl, i, hi, rfl, rfl, k1⟩
    | false =>
      rw [e] at k1
      exact iteF k1
  | _ => exact iteF (k H1 s1)
abbrev s_are_many : Stmt := top 73
abbrev N_are_many : List Str := ["thing", "least", "most"]
theorem sc_are_many : FnScope N_are_many ["thing", "least", "most"] (defScope s_are_many) := ⟨rfl, rfl, rfl, by decide +kernel, rfl, by decide +kernel, by decide +kernel⟩
theorem cl_are_many (F : Df K mg "are_many" s_are_many ["thing", "least", "most"]) (T : Tx mg) : Cl P w K mg base 1 "are_many" sp_many := by
  refine F.cl sc_are_many (fun vs H Q E h => by obtain ⟨_, _, _, _, rfl, _⟩ := h; rfl) (fun f cdv A outer s H vs Q E hr h => ?_)
  have nd := sc_are_many.nd
  obtain ⟨v, d, lo, hi, rfl, hd, k⟩ := h
  refine ⟨_, (pss_one (ps_ret (pe_and (pe_callB (call_isDK K) rfl T.n_isinstance bb_isinstance (pa_cons (pv 0) (pa_cons (pty (n := "tuple") rfl T.n_tuple bt_tuple) pa_nil))) (pe_one (pe_chain op_le op_le (pv 1) (pe_callB (call_lenK K) rfl T.n_len PySem.boot_len (pa_cons (pv 0) pa_nil)) (pv 2)))))), ?_⟩
  refine ⟨v, rfl, v, d, "tuple", rfl, by decide, hd, _, rfl, ?_⟩
  have k1 := k H (Same.refl H)
  cases d with
  | tup ds =>
    obtain ⟨a, xs, rfl, ea, hx⟩ := hd.tup_inv
    refine iteT ⟨_, rfl, _, rfl, .ref a, ds.length, rfl, .inr ⟨xs, .inl (.inl ea), hx.1.symm⟩, lo, (ds.length : Int), rfl, rfl, _, rfl, ?_⟩
    have k1 : Q (.bl (decide (lo ≤ (ds.length : Int)) && decide ((ds.length : Int) ≤ hi))) H := k1
    cases e : decide (lo ≤ (ds.length : Int)) with
    | true =>
      rw [e] at k1
      exact iteT ⟨_, rfl, _, hi, rfl, rfl, k1⟩
    | false =>
      rw [e] at k1
      exact iteF k1
  | _ => exact iteF k1
abbrev s__law_are_many : Stmt := top 109
abbrev N__law_are_many : List Str := ["_law_thing_here", "_law_least", "_law_most"]
theorem sc__law_are_many : FnScope N__law_are_many ["_law_thing_here", "_law_least", "_law_most"] (defScope s__law_are_many) := ⟨rfl, rfl, rfl, by decide +kernel, rfl, by decide +kernel, by decide +kernel⟩
theorem cl__law_are_many (F : Df K mg "_law_are_many" s__law_are_many ["_law_thing_here", "_law_least", "_law_most"]) (T : Tx mg) : Cl P w K mg base 1 "_law_are_many" sp_many := by
  refine F.cl sc__law_are_many (fun vs H Q E h => by obtain ⟨_, _, _, _, rfl, _⟩ := h; rfl) (fun f cdv A outer s H vs Q E hr h => ?_)
  have nd := sc__law_are_many.nd
  obtain ⟨v, d, lo, hi, rfl, hd, k⟩ := h
  refine ⟨_, (pss_one (ps_ret (pe_and (pe_callB (call_isDK K) rfl T.n_isinstance bb_isinstance (pa_cons (pv 0) (pa_cons (pty (n := "tuple") rfl T.n_tuple bt_tuple) pa_nil))) (pe_and (pe_cmpR op_le (pv 1) (pe_callB (call_lenK K) rfl T.n_len PySem.boot_len (pa_cons (pv 0) pa_nil)) (nomark _)) (pe_one (pe_cmpR op_le (pe_callB (call_lenK K) rfl T.n_len PySem.boot_len (pa_cons (pv 0) pa_nil)) (pv 2) (nomark _))))))), ?_⟩
  refine ⟨v, rfl, v, d, "tuple", rfl, by decide, hd, _, rfl, ?_⟩
  have k1 := k H (Same.refl H)
  cases d with
  | tup ds =>
    obtain ⟨a, xs, rfl, ea, hx⟩ := hd.tup_inv
    refine iteT ⟨_, rfl, _, rfl, .ref a, ds.length, rfl, .inr ⟨xs, .inl (.inl ea), hx.1.symm⟩, lo, (ds.length : Int), rfl, rfl, _, rfl, ?_⟩
    have k1 : Q (.bl (decide (lo ≤ (ds.length : Int)) && decide ((ds.length : Int) ≤ hi))) H := k1
    cases e : decide (lo ≤ (ds.length : Int)) with
    | true =>
      rw [e] at k1
      exact iteT ⟨_, rfl, .ref a, ds.length, rfl, .inr ⟨xs, .inl (.inl ea), hx.1.symm⟩, _, rfl, _, hi, rfl, rfl, k1⟩
    | false =>
      rw [e] at k1
      exact iteF k1
  | _ => exact iteF k1
abbrev s_is_bound : Stmt := top 71
abbrev N_is_bound : List Str := ["thing"]
theorem sc_is_bound : FnScope N_is_bound ["thing"] (defScope s_is_bound) := ⟨rfl, rfl, rfl, by decide +kernel, rfl, by decide +kernel, by decide +kernel⟩
theorem cl_is_bound (F : Df K mg "is_bound" s_is_bound ["thing"]) (T : Tx mg) (c_is_number : Cl P w K mg base 1 "is_number" (spB isNum)) : Cl P w K mg base 2 "is_bound" (spB bnd) := by
  refine F.cl sc_is_bound spB_len (fun f cdv A outer s H vs Q E hr h => ?_)
  have nd := sc_is_bound.nd
  obtain ⟨v, d, rfl, hd, k⟩ := h
  refine ⟨_, (pss_one (ps_ret (pe_and (pf c_is_number hr (by omega) rfl (pa_cons (pv 0) pa_nil)) (pe_one (pe_cmpR op_lt (pe_callB call_abs rfl T.n_abs bb_abs (pa_cons (pv 0) pa_nil)) (pe_op op_pow pe_int pe_int) (nomark _)))))), ?_⟩
  refine ⟨v, rfl, v, d, rfl, hd, fun H1 s1 => ⟨_, rfl, ?_⟩⟩
  cases hd with
  | int i =>
    refine iteT ⟨_, rfl, i, rfl, 10, 30, rfl, rfl, ⟨by decide, by decide, by decide⟩, _, _, rfl, rfl, ?_⟩
    have e : decide ((if i < 0 then -i else i) < (10 : Int) ^ (30 : Int).toNat) = bnd (.int i) := abs_lt i _
    show Q (.bl (decide ((if i < 0 then -i else i) < (10 : Int) ^ (30 : Int).toNat))) H1
    rw [e]
    exact k H1 s1
  | _ => exact iteF (k H1 s1)
end
end K6
set_option maxHeartbeats 4000001
namespace K6
open L2 PySem PySem.Spec PyProof.Rows
def sp_bad_thing : Sp := fun vs H Q _ => ∃ v d, ∃ most : Nat, ∃ b : Int, vs = [v, .int most, .int b] ∧ Rep H v d ∧ 1 ≤ most ∧ most ≤ 300 ∧ ∀ H' r, Same H H' → WayO H' r (fb (gd b) most most [([], d)]) → Q r H'
section
variable {P : Program}
variable {w : World} {K : PySem.W.Frag} {mg : Str → Option Value} {base : Heap}
abbrev s__law_bad_thing : Stmt := top 107
abbrev N__law_bad_thing : List Str := ["_law_thing_here", "_law_most", "_law_bound", "_law_left", "_law_met", "_law_way", "_law_part", "_law_good", "_law_last", "_law_k"]
theorem sc__law_bad_thing : FnScope N__law_bad_thing ["_law_thing_here", "_law_most", "_law_bound"] (defScope s__law_bad_thing) := ⟨rfl, rfl, rfl, by decide +kernel, rfl, by decide +kernel, by decide +kernel⟩
theorem cl__law_bad_thing (F : Df K mg "_law_bad_thing" s__law_bad_thing ["_law_thing_here", "_law_most", "_law_bound"]) (T : Tx mg) (c__law_is_number : Cl P w K mg base 1 "_law_is_number" (spB isNum)) (c__law_is_name : Cl P w K mg base 1 "_law_is_name" (spB isName)) :
    Cl P w K mg base 2 "_law_bad_thing" sp_bad_thing := by
  refine F.cl sc__law_bad_thing (fun vs H Q E h => ?_) (fun f cdv A outer s H vs Q E hr h => ?_)
  · obtain ⟨v, d, most, b, rfl, _⟩ := h
    rfl
  have nd := sc__law_bad_thing.nd
  obtain ⟨v, d, most, b, rfl, hd, hm1, hm, k⟩ := h
  refine ⟨_, (pss_cons (pset 3 nd (pe_lst (pa_cons (pe_tup (pa_cons (pe_tup pa_nil) (pa_cons (pv 0) pa_nil))) pa_nil)))
    (pss_cons (pset 4 nd pe_int)
    (pss_cons (ps_while (passes_of rfl) (pt_cmpR (op_neEK K hr) (pv 3) (pe_lst pa_nil) (nomark _)) (pss_cons (ps_asg (pe_bm0 PySem.F.plainAttrs_list PySem.F.slot_list_pop PySem.F.type_list_pop mt_pop (pv 3)) (pg_tupK (n := 2) K rfl (pgs_cons (pgn 5 nd) (pgs_cons (pgn 6 nd) pgs_nil))))
      (C8.pss_cut (pset 7 nd (pe_or (pe_callB (call_isDK K) rfl T.n_isinstance bb_isinstance (pa_cons (pv 6) (pa_cons (pty (n := "tuple") rfl T.n_tuple bt_tuple) pa_nil))) (pe_or (pf c__law_is_name hr (by omega) rfl (pa_cons (pv 6) pa_nil)) (pe_one (pe_and (pf c__law_is_number hr (by omega) rfl (pa_cons (pv 6) pa_nil)) (pe_one (pe_chain op_lt op_lt (pe_un un_neg (pv 2)) (pv 6) (pv 2))))))))
      (pss_cons (ps_if (PW.pt (pw_or (pt_cmpR op_eq (pv 4) (pv 1) (nomark _)) (pw_or (pt_cmpR op_eq (pe_callB (call_lenK K) rfl T.n_len PySem.boot_len (pa_cons (pv 5) pa_nil)) pe_int (nomark _)) (pw_or1 (pt_not (pt_val (pv 7))))))) (pss_one (ps_ret (pv 5))) pss_nil)
      (pss_cons (pset 4 nd (pe_op op_add (pv 4) pe_int))
      (pss_one (ps_if (pt_val (pe_callB (call_isDK K) rfl T.n_isinstance bb_isinstance (pa_cons (pv 6) (pa_cons (pty (n := "tuple") rfl T.n_tuple bt_tuple) pa_nil)))) (pss_cons (pset 8 nd (pe_op op_sub (pe_callB (call_min2 rfl) rfl T.n_min bb_min (pa_cons (pe_callB (call_lenK K) rfl T.n_len PySem.boot_len (pa_cons (pv 6) pa_nil)) (pa_cons (pv 1) pa_nil))) pe_int))
        (pss_one (pset 3 nd (pe_op op_cat (pv 3) (pe_lc (own := [("_law_k", 9)]) rfl nd (pi_range1 rfl T.n_range (pa_cons (pe_op op_add (pv 8) pe_int) pa_nil)) (blkOk_by (own := [("_law_k", 9)]) (N := N__law_bad_thing) (sc := defScope s__law_bad_thing) (by decide +kernel)) (fun _ _ _ _ _ => (pgn 9 nd)) (fun _ _ _ _ _ => pts_nil) (fun _ _ _ _ _ => (pe_tup (pa_cons (pe_op op_catW (pv 5) (pe_tup (pa_cons (pe_op op_sub (pv 8) (pv 9)) pa_nil))) (pa_cons (pe_ix (ix_tupK K) (pv 6) (pe_op op_sub (pv 8) (pv 9)) (fun _ _ => rfl)) pa_nil))))))))) pss_nil)))))))
    (pss_one (ps_ret pe_non))))), ?_⟩
  refine ⟨lsz, fun a0 h0 => ⟨v, rfl, lsz, fun a1 h1 => ⟨lsz, fun L hL => ?_⟩⟩⟩
  have s0 : Same H (upd (upd (upd H a0 (.tup [])) a1 (.tup [.ref a0, v])) L (.lst [.ref a1])) := (((Same.refl H).new h0).new h1).new hL
  have nL : H L = none := (((Same.refl H).new h0).new h1).free hL
  refine ⟨fun m σ' H' => ∃ (L : Addr) (its : List It) (xs : List V) (w p g l n : Option V), σ' = [some v, some (.int most), some (.int b), some (.ref L), some (.int ((most - m : Nat) : Int)), w, p, g, l, n] ∧ m ≤ most ∧ Same H H' ∧ H L = none ∧ H' L = some (.lst xs) ∧
    All2 (ItemR H') xs.reverse its ∧ xs.length ≤ 1 + (most - m) * 300 ∧ (∀ it ∈ its, it.1.length ≤ 6) ∧ fb (gd b) most m its = fb (gd b) most most [([], d)], ⟨most, L, [([], d)], [.ref a1], none, none, none, none, none, ?_, Nat.le_refl _, s0, nL, upd_same, ?_, by simp, by simp, rfl⟩, ?_⟩
  · rw [Nat.sub_self]
    rfl
  · refine All2.one ⟨a1, .ref a0, v, rfl, ?_, ⟨a0, rfl, ?_⟩, hd.same s0⟩
    · rw [upd_ne (ne_of_none upd_same hL), upd_same]
    · rw [up_ne (up_ne upd_same h1) hL]
      rfl
  clear nL s0 hL
  clear L
  rintro m σ' H' ⟨L, its, xs, w, p, g, l, n, rfl, hmm, s1, nL, eL, ha, hz, h6, hf⟩
  refine ⟨_, rfl, lsz, fun q hq => ⟨L, q, xs, rfl, rfl, .inl (.inl (up_ne eL hq)), .inl (.inl upd_same), _, rfl, ?_⟩⟩
  have sq : Same H (upd H' q (.lst [])) := s1.new hq
  cases its with
  | nil =>
    have e : xs = [] := by
      have := ha.nil_right
      simpa using this
    subst e
    refine iteF (k _ .non sq ?_)
    rw [← hf]
    cases m <;> rfl
  | cons it its =>
    obtain ⟨ys, x, rfl⟩ : ∃ ys x, xs = ys ++ [x] := by
      have hne : xs ≠ [] := fun e => by
        rw [e] at ha
        have := ha.1
        simp at this
      exact ⟨xs.dropLast, xs.getLast hne, (List.dropLast_concat_getLast hne).symm⟩
    have ha2 : All2 (ItemR H') (x :: ys.reverse) (it :: its) := by
      rw [List.reverse_append] at ha
      exact ha
    obtain ⟨pa, wv, pv, rfl, hpa, hw, hp⟩ := ha2.head
    have hys := ha2.tail
    have hl6 : it.1.length ≤ 6 := h6 it List.mem_cons_self
    have eq : ((ys ++ [V.ref pa]).isEmpty != true) = true := by cases ys <;> rfl
    rw [eq]
    refine iteT ⟨_, fun _ _ h => h, ?_⟩
    have neq : L ≠ q := ne_of_none eL hq
    have npa : pa ≠ L := ne_of hpa eL (by intro z; cases z)
    refine ⟨_, rfl, .inl ⟨rfl, _, .inl (.inl (up_ne eL hq))⟩, L, _, .ref pa, rfl, rfl, up_ne eL hq, by simp, ?_⟩
    rw [List.dropLast_concat]
    have s2 : Same H (upd (upd H' q (.lst [])) L (.lst ys)) := sq.put nL
    have g2 : Gr H' (upd (upd H' q (.lst [])) L (.lst ys)) := (Gr.of ((Same.refl H').new hq)).trans (gr_put (up_ne eL hq))
    have e2 : (upd (upd H' q (.lst [])) L (.lst ys)) pa = some (.tup [wv, pv]) := g2.tup _ _ hpa
    have eL2 : (upd (upd H' q (.lst [])) L (.lst ys)) L = some (.lst ys) := upd_same
    generalize (upd (upd H' q (.lst [])) L (.lst ys)) = H2 at *
    refine ⟨pa, [wv, pv], rfl, .inl (.inl e2), rfl, wv, [pv], rfl, pv, [], rfl, rfl, ?_⟩
    have hw2 := hw.gr g2
    have hp2 := hp.gr g2
    obtain ⟨wa, rfl, ewa⟩ := id hw2
    refine ⟨fun σ3 H3 => σ3 = [some v, some (.int most), some (.int b), some (.ref L), some (.int ((most - m : Nat) : Int)), some (.ref wa), some pv, some (.bl (gd b it.2)), l, n] ∧ Same H2 H3, ?_, ?_⟩
    · refine ⟨pv, rfl, pv, it.2, "tuple", rfl, by decide, hp2, _, rfl, ?_⟩
      cases e : it.2 with
      | tup ds => exact iteT ⟨rfl, Same.refl _⟩
      | str z =>
        rw [e] at hp2
        refine iteF ⟨pv, rfl, pv, _, rfl, hp2, fun H3 s3 => ⟨_, rfl, ?_⟩⟩
        cases e5 : isName (.str z) with
        | true => exact iteT ⟨by rw [show gd b (.str z) = true from e5]; rfl, s3⟩
        | false => exact iteF ⟨pv, rfl, pv, _, rfl, hp2.same s3, fun H4 s4 => ⟨_, rfl, iteF ⟨by rw [show gd b (.str z) = false from e5]; rfl, s3.trans s4⟩⟩⟩
      | int i =>
        rw [e] at hp2
        refine iteF ⟨pv, rfl, pv, _, rfl, hp2, fun H3 s3 => ⟨_, rfl, ?_⟩⟩
        refine iteF ⟨pv, rfl, pv, _, rfl, hp2.same s3, fun H4 s4 => ⟨_, rfl, ?_⟩⟩
        cases hp2
        refine iteT ⟨_, rfl, b, rfl, _, rfl, -b, i, rfl, rfl, _, rfl, ?_⟩
        cases e5 : decide (-b < i) with
        | true =>
          refine iteT ⟨_, rfl, i, b, rfl, rfl, ?_, s3.trans s4⟩
          rw [show gd b (.int i) = decide (i < b) by show (decide (-b < i) && decide (i < b)) = _; rw [e5, Bool.true_and]]
          rfl
        | false =>
          refine iteF ⟨?_, s3.trans s4⟩
          rw [show gd b (.int i) = false by show (decide (-b < i) && decide (i < b)) = _; rw [e5, Bool.false_and]]
          rfl
      | _ =>
        rw [e] at hp2
        refine iteF ⟨pv, rfl, pv, _, rfl, hp2, fun H3 s3 => ⟨_, rfl, ?_⟩⟩
        exact iteF ⟨pv, rfl, pv, _, rfl, hp2.same s3, fun H4 s4 => ⟨_, rfl, iteF ⟨rfl, s3.trans s4⟩⟩⟩
    rintro σ3 H3 ⟨rfl, s3⟩
    have ewa3 := s3 _ _ ewa
    have out : (m = 0 ∨ 5 < it.1.length ∨ gd b it.2 = false) → Q (.ref wa) H3 := fun c => by
      refine k H3 _ (s2.trans s3) ?_
      rw [← hf]
      have e : fb (gd b) most m (it :: its) = some it.1 := by
        cases m with
        | zero => rfl
        | succ m => exact if_pos (by simpa using c)
      rw [e]
      exact hw2.gr (.of s3)
    (refine ⟨_, rfl, _, rfl, rfl, _, rfl, ?_⟩)
    cases e1 : decide (V.int ((most - m : Nat) : Int) = V.int (most : Int)) with
    | true =>
      have hm0 : m = 0 := by
        have := V.int.inj (of_decide_eq_true e1)
        omega
      exact iteT ⟨_, rfl, out (.inl hm0)⟩
    | false =>
    have hm0 : m ≠ 0 := fun z => by
      subst z
      exact of_decide_eq_false e1 rfl
    refine iteF ⟨_, rfl, _, it.1.length, rfl, .inr ⟨_, .inl (.inl ewa3), by simp⟩, rfl, _, rfl, ?_⟩
    cases e2 : decide (V.int (it.1.length : Int) = V.int 6) with
    | true => exact iteT ⟨_, rfl, out (.inr (.inl (by have := V.int.inj (of_decide_eq_true e2); omega)))⟩
    | false =>
    have h5 : ¬ 5 < it.1.length := fun z => of_decide_eq_false e2 (congrArg V.int (by omega))
    refine iteF ⟨_, rfl, _, rfl, ?_⟩
    cases e3 : gd b it.2 with
    | false => exact iteT ⟨_, rfl, out (.inr (.inr e3))⟩
    | true =>
    obtain ⟨m, rfl⟩ : ∃ m', m = m' + 1 := ⟨m - 1, by omega⟩
    have hf2 : fb (gd b) most m (kids most it ++ its) = fb (gd b) most most [([], d)] := by
      rw [← hf]
      exact (if_neg (by rintro (z | z) <;> first | exact h5 z | (rw [e3] at z; cases z))).symm
    have hmet : ((most - (m + 1) : Nat) : Int) + 1 = ((most - m : Nat) : Int) := by omega
    have sx : ys.length ≤ (most - (m + 1)) * 300 := by
      rw [List.length_append, List.length_singleton] at hz
      omega
    have g3 : Gr H' H3 := g2.trans (.of s3)
    have eL3 := s3 _ _ eL2
    have hp3 := hp2.same s3
    refine iteF ⟨_, rfl, _, _, rfl, rfl, pv, rfl, pv, it.2, "tuple", rfl, by decide, hp3, _, rfl, ?_⟩
    cases e4 : isTy "tuple" it.2 with
    | false =>
      refine iteF ⟨m, Nat.lt_succ_self m, L, its, ys, _, _, _, _, _, by rw [← hmet]; rfl, by omega, s2.trans s3, nL, eL3, hys.mono fun x d r => r.gr g3, by omega, fun it hit => h6 it (List.mem_cons_of_mem _ hit), ?_⟩
      rw [← hf2, kids_leaf, List.nil_append]
      intro ds z
      rw [isTy_tuple, z] at e4
      cases e4
    | true =>
      obtain ⟨way, di⟩ := it
      obtain ⟨ds, rfl⟩ := isTup_inv ((isTy_tuple di).symm.trans e4)
      obtain ⟨bb, vs, rfl, eb, hvs⟩ := hp3.tup_inv
      have emin : (if (most : Int) < ((vs.length : Nat) : Int) then (most : Int) else ((vs.length : Nat) : Int)) = ((min ds.length most : Nat) : Int) := by
        rw [hvs.1]
        split <;> omega
      refine iteT ⟨.ref bb, rfl, .ref bb, vs.length, rfl, .inr ⟨vs, .inl (.inl eb), rfl⟩, _, rfl, (vs.length : Int), (most : Int), rfl, _, _, rfl, rfl, ?_⟩
      refine ⟨_, rfl, _, rfl, _, _, rfl, rfl, _, rfl, by rw [emin]; omega, by rw [emin]; omega, fun C hC => lc_it walk_range (CPv ItemR (kids most (way, .tup ds)).reverse H3 C) (cpv_start hC) (fun _ _ _ _ => trivial) ?_ ?_⟩
      · rintro i x H4 H5 hi pv4 ⟨rfl, rfl⟩
        rw [emin] at hi
        have hi2 : i < min ds.length most := by omega
        have ej : (if (most : Int) < ((vs.length : Nat) : Int) then (most : Int) else ((vs.length : Nat) : Int)) - 1 - (0 + (i : Int)) = ((min ds.length most - 1 - i : Nat) : Int) := by
          rw [emin]
          omega
        have hj : min ds.length most - 1 - i < ds.length := by omega
        obtain ⟨xj, hxj, rxj⟩ := hvs.get (List.getElem?_eq_getElem hj)
        have hk := kids_rev_get (way := way) hi2
        generalize min ds.length most - 1 - i = j at *
        have s5 := pv4.1
        have hz5 : (way.map fun k : Nat => V.int (k : Int)).length + 1 ≤ sizeLine := by
          rw [List.length_map]
          exact sizes' (by show way.length + 1 ≤ 1000000; have : ¬ 5 < way.length := h5; omega)
        refine ⟨rfl, _, rfl, _, rfl, _, rfl, _, _, rfl, rfl, lsz, fun t ht => ⟨wa, t, _, _, rfl, rfl, up_ne (s5 _ _ ewa3) ht, upd_same, hz5, fun r H6 s6 er => ⟨_, rfl, _, rfl, _, rfl, _, _, rfl, rfl, bb, vs, _, xj, rfl, rfl, .inl (.inl (s6 _ _ (up_ne (s5 _ _ eb) ht))), ?_, lsz, fun p2 hp2 => ?_⟩⟩⟩
        · show atI vs _ = some xj
          rw [ej]
          exact atI_nat hxj
        · have s7 : Same H5 (upd H6 p2 (.tup [.ref r, xj])) := (((Same.refl H5).new ht).trans s6).new hp2
          refine cpv_fin (fun _ _ _ _ g r => r.gr g) hC (by rw [List.length_reverse, kids_length]; omega) hk pv4 s7 ⟨p2, .ref r, xj, rfl, upd_same, ⟨r, rfl, ?_⟩, ?_⟩
          · rw [up_ne er hp2, List.map_append]
            show some (HO.tup (_ ++ [V.int _])) = _
            rw [ej]
            rfl
          · have e : ds.getD j .non = ds[j] := by
              rw [List.getD_eq_getElem?_getD, List.getElem?_eq_getElem hj]
              rfl
            rw [e]
            exact rxj.same (s5.trans s7)
      · intro H4 pv4
        obtain ⟨s4, zs, ezs, azs⟩ := cpv_done (by rw [List.length_reverse, kids_length, emin]; omega) pv4
        have eL4 := s4 _ _ eL3
        have lz : zs.length ≤ 300 := by
          rw [azs.1, List.length_reverse, kids_length]
          omega
        refine ⟨L, C, ys, zs, rfl, rfl, eL4, ezs, sizes' (by omega), fun L2 hL2 => ?_⟩
        have s6 : Same H (upd H4 L2 (.lst (ys ++ zs))) := ((s2.trans s3).trans s4).new hL2
        have g5 : Gr H4 (upd H4 L2 (.lst (ys ++ zs))) := .of ((Same.refl H4).new hL2)
        refine ⟨m, Nat.lt_succ_self m, L2, kids most (way, .tup ds) ++ its, ys ++ zs, _, _, _, _, _, by rw [← hmet]; rfl, by omega, s6, ((s2.trans s3).trans s4).free hL2, upd_same, ?_, ?_, ?_, hf2⟩
        · rw [List.reverse_append]
          have r1 := (azs.mono fun x d r => r.gr g5).rev
          rw [List.reverse_reverse] at r1
          exact r1.app (hys.mono fun x d r => r.gr ((g3.trans (.of s4)).trans g5))
        · rw [List.length_append]
          omega
        · intro it hit
          rcases List.mem_append.mp hit with hit | hit
          · obtain ⟨k2, hk2, rfl⟩ := List.mem_map.mp (show it ∈ (List.range (min ds.length most)).map fun k => (way ++ [k], ds.getD k .non) from hit)
            (rw [List.length_append, List.length_singleton])
            have : ¬ 5 < way.length := h5
            omega
          · exact h6 it (List.mem_cons_of_mem _ hit)
end
end K6
set_option maxHeartbeats 4000001
namespace K6
open L2 PySem PySem.Spec PyProof.Rows
def W (s : String) : List Nat := (Str.ofString s).cps.toList
theorem S_W (s : String) : S (W s) = Str.ofString s := SX.S_tl _
theorem S_inj' {a b : List Nat} (h : S a = S b) : a = b := SX.S_inj h
theorem dstr (w : List Nat) (s : String) : decide (V.str (S w) = V.str (Str.ofString s)) = decide (w = W s) := by
  by_cases h : w = W s
  · subst h
    rw [S_W, decide_eq_true rfl, decide_eq_true rfl]
  · rw [decide_eq_false h, decide_eq_false]
    intro z
    have z2 := V.str.inj z
    rw [← S_W] at z2
    exact h (S_inj' z2)
theorem snoc_of {α : Type} {xs : List α} (h : xs ≠ []) : ∃ ys x, xs = ys ++ [x] := ⟨xs.dropLast, xs.getLast h, (List.dropLast_concat_getLast h).symm⟩
def span : D → D → Bool
  | .int i, .int j => bnd (.int i) && (bnd (.int j) && (decide (0 ≤ j - i) && decide (j - i ≤ 99)))
  | _, _ => false
def pairOk : D → Bool
  | .tup [a, _] => amg 1 9 a
  | _ => false
def pairsOk : D → Bool
  | .tup ds => mny 1 6 (.tup ds) && ds.all pairOk
  | _ => false
def somesOk : D → Bool
  | .tup ds => mny 1 9 (.tup ds) && ds.all own
  | _ => false
def sp_span : Sp := fun vs H Q _ => ∃ v a b c, vs = [v] ∧ Rep H v (.tup [a, b, c]) ∧ ∀ H', Same H H' → Q (.bl (span b c)) H'
section
variable {P : Program}
variable {w : World} {K : PySem.W.Frag} {mg : Str → Option Value} {base : Heap}
abbrev s_is_own : Stmt := top 72
abbrev N_is_own : List Str := ["thing", "left", "part"]
theorem sc_is_own : FnScope N_is_own ["thing"] (defScope s_is_own) := ⟨rfl, rfl, rfl, by decide +kernel, rfl, by decide +kernel, by decide +kernel⟩
theorem cl_is_own (F : Df K mg "is_own" s_is_own ["thing"]) (T : Tx mg) (c_is_number : Cl P w K mg base 1 "is_number" (spB isNum)) (c_is_bound : Cl P w K mg base 2 "is_bound" (spB bnd)) (c_first_bad : Cl P w K mg base 3 "first_bad" sp_first_bad) :
    Cl P w K mg base 4 "is_own" (spB own) := by
  refine F.cl sc_is_own spB_len (fun f cdv A outer s H vs Q E hr h => ?_)
  have nd := sc_is_own.nd
  obtain ⟨v, d, rfl, hd, k⟩ := h
  refine ⟨_, (pss_cons (ps_if (pt_cmpR op_notN (pf c_first_bad hr (by omega) rfl (pa_cons (pv 0) (pa_cons (C8.pe_gc rfl T.g_MOST_OWN) pa_nil))) pe_non (nomark _)) (pss_one (ps_ret pe_bl)) pss_nil)
    (pss_cons (pset 1 nd (pe_lst (pa_cons (pv 0) pa_nil)))
    (pss_cons (ps_while (passes_of rfl) (pt_cmpR (op_neEK K hr) (pv 1) (pe_lst pa_nil) (nomark _)) (pss_cons (pset 2 nd (pe_bm0 PySem.F.plainAttrs_list PySem.F.slot_list_pop PySem.F.type_list_pop mt_pop (pv 1)))
      (pss_cons (ps_if (PW.pt (pw_and (pt_val (pf c_is_number hr (by omega) rfl (pa_cons (pv 2) pa_nil))) (pw_and1 (pt_not (pt_val (pf c_is_bound hr (by omega) rfl (pa_cons (pv 2) pa_nil))))))) (pss_one (ps_ret pe_bl)) pss_nil)
      (pss_one (ps_if (pt_val (pe_callB (call_isDK K) rfl T.n_isinstance bb_isinstance (pa_cons (pv 2) (pa_cons (pty (n := "tuple") rfl T.n_tuple bt_tuple) pa_nil)))) (pss_one (ps_expr (pe_bm PySem.F.plainAttrs_list PySem.F.slot_list_extend PySem.F.type_list_extend mt_extT (pv 1) (pa_cons (pv 2) pa_nil)))) pss_nil)))))
    (pss_one (ps_ret pe_bl))))), ?_⟩
  refine ⟨v, rfl, v, d, 60, rfl, hd, by decide, fun H1 r s1 hr1 => ?_⟩
  cases e0 : fb (gd (10 ^ 60)) 60 60 [([], d)] with
  | some way =>
    rw [e0] at hr1
    obtain ⟨a, rfl, _⟩ := hr1
    refine ⟨rfl, _, rfl, iteT ?_⟩
    have := k H1 s1
    rw [own_bad e0] at this
    exact this
  | none =>
    rw [e0] at hr1
    obtain rfl : r = .non := hr1
    obtain ⟨eo, ht, hc⟩ := own_good e0
    refine ⟨rfl, _, rfl, iteF ?_⟩
    refine ⟨v, rfl, lsz, fun L hL => ?_⟩
    have s0 := s1.new (o := .lst [v]) hL
    have nL : H L = none := s1.free hL
    refine ⟨fun m σ' H' => ∃ (its : List (Nat × D)) (xs : List V) (p : Option V), σ' = [some v, some (.ref L), p] ∧ Same H H' ∧ H' L = some (.lst xs) ∧ All2 (fun x (q : Nat × D) => Rep H' x q.2) xs its ∧ (∀ q ∈ its, tok (gd (10 ^ 60)) q.1 q.2 = true) ∧ pcnt its = m ∧ m ≤ 60 ∧ own d = p30 its,
      ⟨cnt 6 d, [(6, d)], [v], none, rfl, s0, upd_same, All2.one ((hd.same s1).same ((Same.refl H1).new hL)), by simpa using ht, by simp [pcnt], hc, by simpa [p30] using eo⟩, ?_⟩
    rintro m σ' H' ⟨its, xs, p, rfl, s2, eL, ha, hok, hm, hm60, ho⟩
    refine ⟨_, rfl, lsz, fun q hq => ⟨L, q, xs, rfl, rfl, sql (up_ne eL hq), sql upd_same, _, rfl, ?_⟩⟩
    have sq := s2.new (o := .lst []) hq
    have gq : Gr H' (upd H' q (.lst [])) := .of ((Same.refl H').new hq)
    cases hx : xs with
    | nil =>
      subst hx
      have e := ha.nil_left
      subst e
      refine iteF ?_
      have := k _ sq
      rw [ho] at this
      exact this
    | cons x0 r0 =>
      obtain ⟨ys, x, exs⟩ := snoc_of (show xs ≠ [] by rw [hx]; exact List.cons_ne_nil _ _)
      rw [← hx]
      clear hx x0 r0
      subst exs
      obtain ⟨jts, it, rfl⟩ := snoc_of (show its ≠ [] by
        intro z
        subst z
        have := ha.1
        simp at this)
      have hl : ys.length = jts.length := by have := ha.1; simpa using this
      have hit : Rep H' x it.2 := ha.2 ys.length x it (by simp) (by rw [hl]; simp)
      have hys : All2 (fun x (q : Nat × D) => Rep H' x q.2) ys jts := by
        have := ha.take ys.length
        rw [List.take_left, hl, List.take_left] at this
        exact this
      have eq : ((ys ++ [x]).isEmpty != true) = true := by cases ys <;> rfl
      rw [eq]
      refine iteT ⟨_, fun _ _ h => h, ?_⟩
      refine ⟨_, rfl, .inl ⟨rfl, _, sql (up_ne eL hq)⟩, L, _, x, rfl, rfl, up_ne eL hq, by simp, ?_⟩
      rw [List.dropLast_concat]
      have s3 := sq.put (o := .lst ys) nL
      have g3 : Gr H' (upd (upd H' q (.lst [])) L (.lst ys)) := gq.trans (gr_put (up_ne eL hq))
      have eL3 : (upd (upd H' q (.lst [])) L (.lst ys)) L = some (.lst ys) := upd_same
      generalize (upd (upd H' q (.lst [])) L (.lst ys)) = H3 at *
      have hit3 := hit.gr g3
      have htk := hok it (by simp)
      have hjk : ∀ q ∈ jts, tok (gd (10 ^ 60)) q.1 q.2 = true := fun q hq => hok q (by simp [hq])
      have hpc : pcnt jts + cnt it.1 it.2 = m := by
        rw [← hm, pcnt_app]
        simp [pcnt]
      have hpo : own d = (p30 jts && n30 it.1 it.2) := by
        rw [ho, p30_app]
        simp [p30]
      have hpos := cnt_pos it.1 it.2
      refine ⟨x, rfl, x, it.2, rfl, hit3, fun H4 s4 => ⟨_, rfl, ?_⟩⟩
      obtain ⟨n, dd⟩ := it
      obtain ⟨n, rfl⟩ : ∃ n', n = n' + 1 := by
        cases n with
        | zero => cases htk
        | succ n => exact ⟨n, rfl⟩
      have next : ∀ H5, Same H4 H5 → n30 (n + 1) dd = true → isTup dd = false → ∃ m', m' < m ∧ ∃ (its : List (Nat × D)) (xs : List V) (p : Option V), [some v, some (V.ref L), some x] = [some v, some (V.ref L), p] ∧ Same H H5 ∧ H5 L = some (.lst xs) ∧ All2 (fun x (q : Nat × D) => Rep H5 x q.2) xs its ∧ (∀ q ∈ its, tok (gd (10 ^ 60)) q.1 q.2 = true) ∧ pcnt its = m' ∧ m' ≤ 60 ∧ own d = p30 its := fun H5 s5 hn _ =>
        ⟨pcnt jts, by omega, jts, ys, _, rfl, (s3.trans s4).trans s5, s5 _ _ (s4 _ _ eL3), hys.mono fun x q r => r.gr ((g3.trans (.of s4)).trans (.of s5)), hjk, rfl, by omega, by rw [hpo, hn, Bool.and_true]⟩
      cases dd with
      | int i =>
        refine iteT ⟨x, rfl, x, .int i, rfl, hit3.same s4, fun H5 s5 => ⟨_, rfl, ?_⟩⟩
        cases eb : bnd (.int i) with
        | true =>
          refine iteF ⟨x, rfl, x, .int i, "tuple", rfl, by decide, (hit3.same s4).same s5, _, rfl, iteF ?_⟩
          exact next H5 s5 eb rfl
        | false =>
          refine iteT ?_
          have := k _ ((s3.trans s4).trans s5)
          rw [hpo, show n30 (n + 1) (.int i) = false from eb, Bool.and_false] at this
          exact this
      | tup ds =>
        refine iteF ⟨x, rfl, x, .tup ds, "tuple", rfl, by decide, hit3.same s4, _, rfl, iteT ?_⟩
        obtain ⟨b, zs, rfl, eb, hz⟩ := (hit3.same s4).tup_inv
        have eL4 := s4 _ _ eL3
        have e1 := pcnt_kids n ds
        have hpc : pcnt jts + cnt (n + 1) (.tup ds) = m := hpc
        have lz : zs.length ≤ 60 := by
          have := pcnt_len (ds.map fun d => (n, d))
          rw [List.length_map] at this
          rw [hz.1]
          omega
        have ly : ys.length ≤ 60 := by
          have := pcnt_len jts
          omega
        have g5 : Gr H4 (upd H4 L (.lst (ys ++ zs))) := gr_put eL4
        have htk2 : (gd (10 ^ 60) (.tup ds) && ds.all (tok (gd (10 ^ 60)) n)) = true := htk
        rw [Bool.and_eq_true, List.all_eq_true] at htk2
        refine ⟨_, rfl, .inl ⟨rfl, _, sql eL4⟩, _, rfl, L, b, ys, zs, rfl, rfl, eL4, eb, sizes' (by omega), pcnt jts + pcnt (ds.map fun d => (n, d)), by omega, jts ++ ds.map (fun d => (n, d)), ys ++ zs, _, rfl, (s3.trans s4).put nL, upd_same, ?_, ?_, pcnt_app _ _, by omega, ?_⟩
        · refine (hys.mono fun x q r => r.gr ((g3.trans (.of s4)).trans g5)).app ⟨by rw [List.length_map]; exact hz.1, fun i x q h1 h2 => ?_⟩
          rw [List.getElem?_map] at h2
          cases e6 : ds[i]? with
          | none => rw [e6] at h2; cases h2
          | some d6 =>
            rw [e6] at h2
            obtain rfl : (n, d6) = q := Option.some.inj h2
            exact (hz.2 i x d6 h1 e6).gr g5
        · intro q hq
          (rcases List.mem_append.mp hq with hq | hq)
          · exact hjk q hq
          · obtain ⟨d6, h6, rfl⟩ := List.mem_map.mp hq
            exact htk2.2 d6 h6
        · rw [hpo, p30_app, p30_kids]
      | str z => exact iteF ⟨x, rfl, x, .str z, "tuple", rfl, by decide, hit3.same s4, _, rfl, iteF (next H4 (Same.refl _) rfl rfl)⟩
      | bl z => exact iteF ⟨x, rfl, x, .bl z, "tuple", rfl, by decide, hit3.same s4, _, rfl, iteF (next H4 (Same.refl _) rfl rfl)⟩
      | non => exact iteF ⟨x, rfl, x, .non, "tuple", rfl, by decide, hit3.same s4, _, rfl, iteF (next H4 (Same.refl _) rfl rfl)⟩
      | oth => exact iteF ⟨x, rfl, x, .oth, "tuple", rfl, by decide, hit3.same s4, _, rfl, iteF (next H4 (Same.refl _) rfl rfl)⟩
end
end K6
set_option maxHeartbeats 4000001
namespace K6
open L2 PySem PySem.Spec PyProof.Rows
def leafOk (w : List Nat) (args : List D) : Bool :=
  if w = W "just" then own (args.getD 0 .non)
  else if w = W "some" then somesOk (args.getD 0 .non)
  else if w = W "from" then span (args.getD 0 .non) (args.getD 1 .non)
  else if w = W "again" then true else isName (args.getD 0 .non)
def sp_leaf : Sp := fun vs H Q _ => ∃ v w args, vs = [v] ∧ Rep H v (.tup (.str w :: args)) ∧ (w ≠ W "again" → 1 ≤ args.length) ∧ (w = W "from" → args.length = 2) ∧ ∀ H', Same H H' → Q (.bl (leafOk w args)) H'
theorem somesOk_tup (ds : List D) : somesOk (.tup ds) = (mny 1 9 (.tup ds) && ds.all own) := rfl
theorem pairsOk_tup (ds : List D) : pairsOk (.tup ds) = (mny 1 6 (.tup ds) && ds.all pairOk) := rfl
theorem span_int (i j : Int) : span (.int i) (.int j) = (bnd (.int i) && (bnd (.int j) && (decide (0 ≤ j - i) && decide (j - i ≤ 99)))) := rfl
theorem mny_inv {lo hi : Int} {d : D} (h : mny lo hi d = true) : ∃ ds, d = .tup ds ∧ lo ≤ (ds.length : Int) ∧ (ds.length : Int) ≤ hi := by
  cases d with
  | tup ds =>
    have h1 : (decide (lo ≤ (ds.length : Int)) && decide ((ds.length : Int) ≤ hi)) = true := h
    (rw [Bool.and_eq_true, decide_eq_true_eq, decide_eq_true_eq] at h1)
    exact ⟨ds, rfl, h1⟩
  | _ => cases h
theorem two_of {es : List D} (h : es.length = 2) : ∃ a c, es = [a, c] := by
  match es, h with
  | [a, c], _ => exact ⟨a, c, rfl⟩
theorem all2_bl {ys : List V} {bs : List Bool} (a : All2 (fun v (b : Bool) => v = .bl b) ys bs) : ys = bs.map V.bl := by
  apply List.ext_getElem?
  intro i
  rw [List.getElem?_map]
  cases h1 : ys[i]? with
  | none =>
    have : bs[i]? = none := by
      rw [List.getElem?_eq_none_iff] at h1 ⊢
      rw [← a.1]
      exact h1
    rw [this]
    rfl
  | some y =>
    obtain ⟨b, hb, rb⟩ := a.getV h1
    rw [hb, rb]
    rfl
section
variable {P : Program}
variable {w : World} {K : PySem.W.Frag} {mg : Str → Option Value} {base : Heap}
abbrev s__law_is_own : Stmt := top 110
abbrev N__law_is_own : List Str := ["_law_thing_here"]
theorem sc__law_is_own : FnScope N__law_is_own ["_law_thing_here"] (defScope s__law_is_own) := ⟨rfl, rfl, rfl, by decide +kernel, rfl, by decide +kernel, by decide +kernel⟩
theorem cl__law_is_own (F : Df K mg "_law_is_own" s__law_is_own ["_law_thing_here"]) (T : Tx mg) (c__law_bad_thing : Cl P w K mg base 2 "_law_bad_thing" sp_bad_thing) : Cl P w K mg base 3 "_law_is_own" (spB own) := by
  refine F.cl sc__law_is_own spB_len (fun f cdv A outer s H vs Q E hr h => ?_)
  have nd := sc__law_is_own.nd
  obtain ⟨v, d, rfl, hd, k⟩ := h
  refine ⟨_, (pss_one (ps_ret (pe_cmpR op_isN (pf c__law_bad_thing hr (by omega) rfl (pa_cons (pv 0) (pa_cons pe_int (pa_cons (pe_op op_pow pe_int pe_int) pa_nil)))) pe_non (nomark _)))), ?_⟩
  refine ⟨v, rfl, _, _, rfl, rfl, ⟨by decide, by decide, by decide⟩, v, d, 60, (10 : Int) ^ (30 : Int).toNat, rfl, hd, by decide, by decide, fun H1 r s1 hr1 => ⟨rfl, ?_⟩⟩
  have k1 := k H1 s1
  cases e : fb (gd ((10 : Int) ^ (30 : Int).toNat)) 60 60 [([], d)] with
  | none =>
    rw [e] at hr1
    obtain rfl : r = .non := hr1
    rw [show own d = true from congrArg Option.isNone e] at k1
    exact k1
  | some way =>
    rw [e] at hr1
    obtain ⟨a, rfl, _⟩ := hr1
    rw [show own d = false from congrArg Option.isNone e] at k1
    exact k1
abbrev s_is_span : Stmt := top 74
abbrev N_is_span : List Str := ["thing"]
theorem sc_is_span : FnScope N_is_span ["thing"] (defScope s_is_span) := ⟨rfl, rfl, rfl, by decide +kernel, rfl, by decide +kernel, by decide +kernel⟩
theorem cl_is_span (F : Df K mg "is_span" s_is_span ["thing"]) (T : Tx mg) (c_is_bound : Cl P w K mg base 2 "is_bound" (spB bnd)) : Cl P w K mg base 3 "is_span" sp_span := by
  refine F.cl sc_is_span (fun vs H Q E h => by obtain ⟨_, _, _, _, rfl, _⟩ := h; rfl) (fun f cdv A outer s H vs Q E hr h => ?_)
  have nd := sc_is_span.nd
  obtain ⟨v, a, b, c, rfl, hd, k⟩ := h
  refine ⟨_, (pss_one (ps_ret (pe_and (pf c_is_bound hr (by omega) rfl (pa_cons (pe_ix (ix_tupK K) (pv 0) pe_int (fun _ _ => rfl)) pa_nil)) (pe_and (pf c_is_bound hr (by omega) rfl (pa_cons (pe_ix (ix_tupK K) (pv 0) pe_int (fun _ _ => rfl)) pa_nil)) (pe_one (pe_chain op_le op_le pe_int (pe_op op_sub (pe_ix (ix_tupK K) (pv 0) pe_int (fun _ _ => rfl)) (pe_ix (ix_tupK K) (pv 0) pe_int (fun _ _ => rfl))) (C8.pe_gc rfl T.g_MOST_SPAN))))))), ?_⟩
  obtain ⟨p, xs, rfl, ep, hx⟩ := hd.tup_inv
  obtain ⟨x1, e1, r1⟩ := hx.get (i := 1) (d := b) rfl
  obtain ⟨x2, e2, r2⟩ := hx.get (i := 2) (d := c) rfl
  refine ⟨_, rfl, p, xs, 1, x1, rfl, rfl, sqt ep, atI_nat (j := 1) e1, x1, b, rfl, r1, fun H1 s1 => ⟨_, rfl, ?_⟩⟩
  have k1 := k H1 s1
  cases eb : bnd b with
  | false =>
    refine iteF ?_
    have : span b c = false := by
      cases b <;> first | rfl | (cases c <;> first | rfl | (rw [span_int, eb, Bool.false_and]))
    rw [this] at k1
    exact k1
  | true =>
    refine iteT ⟨_, rfl, p, xs, 2, x2, rfl, rfl, sqt (s1 _ _ ep), atI_nat (j := 2) e2, x2, c, rfl, r2.same s1, fun H2 s2 => ⟨_, rfl, ?_⟩⟩
    have k2 := k H2 (s1.trans s2)
    cases ec : bnd c with
    | false =>
      refine iteF ?_
      have : span b c = false := by
        cases b <;> first | rfl | (cases c <;> first | rfl | (rw [span_int, ec, Bool.false_and, Bool.and_false]))
      rw [this] at k2
      exact k2
    | true =>
      cases b with
      | int i =>
        cases c with
        | int j =>
          cases r1
          cases r2
          have ep2 := s2 _ _ (s1 _ _ ep)
          refine iteT ⟨_, rfl, p, xs, 2, _, rfl, rfl, sqt ep2, atI_nat (j := 2) e2, _, rfl, p, xs, 1, _, rfl, rfl, sqt ep2, atI_nat (j := 1) e1, j, i, rfl, rfl, 0, j - i, rfl, rfl, _, rfl, ?_⟩
          have k2 : Q (.bl (bnd (.int i) && (bnd (.int j) && (decide (0 ≤ j - i) && decide (j - i ≤ 99))))) H2 := k2
          rw [eb, ec, Bool.true_and, Bool.true_and] at k2
          cases e3 : decide (0 ≤ j - i) with
          | true =>
            rw [e3, Bool.true_and] at k2
            exact iteT ⟨j - i, 99, rfl, rfl, k2⟩
          | false =>
            rw [e3, Bool.false_and] at k2
            exact iteF k2
        | _ => cases ec
      | _ => cases eb
abbrev s_are_pairs : Stmt := top 75
abbrev N_are_pairs : List Str := ["thing", "pair"]
theorem sc_are_pairs : FnScope N_are_pairs ["thing"] (defScope s_are_pairs) := ⟨rfl, rfl, rfl, by decide +kernel, rfl, by decide +kernel, by decide +kernel⟩
theorem cl_are_pairs (F : Df K mg "are_pairs" s_are_pairs ["thing"]) (T : Tx mg) (c_are_many : Cl P w K mg base 1 "are_many" sp_many) (c_is_among : Cl P w K mg base 2 "is_among" sp_among) : Cl P w K mg base 3 "are_pairs" (spB pairsOk) := by
  refine F.cl sc_are_pairs spB_len (fun f cdv A outer s H vs Q E hr h => ?_)
  have nd := sc_are_pairs.nd
  obtain ⟨v, d, rfl, hd, k⟩ := h
  refine ⟨_, (pss_cons (ps_if (pt_not (pt_val (pf c_are_many hr (by omega) rfl (pa_cons (pv 0) (pa_cons pe_int (pa_cons (C8.pe_gc rfl T.g_MOST_JOINED) pa_nil)))))) (pss_one (ps_ret pe_bl)) pss_nil)
    (pss_one (ps_ret (pe_callB (call_allK K rfl) rfl T.n_all bb_all (pa_cons (pe_lc (own := [("pair", 1)]) rfl nd (pi_tupK K (pv 0)) (blkOk_by (own := [("pair", 1)]) (N := N_are_pairs) (sc := defScope s_are_pairs) (by decide +kernel)) (fun _ _ _ _ _ => (pgn 1 nd)) (fun _ _ _ _ _ => pts_nil) (fun _ _ _ _ _ => (pe_and (pe_callB (call_isDK K) rfl T.n_isinstance bb_isinstance (pa_cons (pv 1) (pa_cons (pty (n := "tuple") rfl T.n_tuple bt_tuple) pa_nil))) (pe_and (pe_cmpR op_eq (pe_callB (call_lenK K) rfl T.n_len PySem.boot_len (pa_cons (pv 1) pa_nil)) pe_int (nomark _)) (pe_one (pf c_is_among hr (by omega) rfl (pa_cons (pe_ix (ix_tupK K) (pv 1) pe_int (fun _ _ => rfl)) (pa_cons pe_int (pa_cons (C8.pe_gc rfl T.g_MOST_WEIGHT) pa_nil))))))))) pa_nil))))), ?_⟩
  refine ⟨v, rfl, v, d, 1, 6, rfl, hd, fun H1 s1 => ⟨_, rfl, ?_⟩⟩
  cases em : mny 1 6 d with
  | false =>
    refine iteT ?_
    have k1 := k H1 s1
    have : pairsOk d = false := by
      cases d <;> first | rfl | (rw [pairsOk_tup, em, Bool.false_and])
    rw [this] at k1
    exact k1
  | true =>
    obtain ⟨ds, rfl⟩ : ∃ ds, d = .tup ds := by
      cases d <;> first | exact ⟨_, rfl⟩ | cases em
    have hl : ds.length ≤ 6 := by
      have h1 : (decide (1 ≤ (ds.length : Int)) && decide ((ds.length : Int) ≤ 6)) = true := em
      (rw [Bool.and_eq_true, decide_eq_true_eq, decide_eq_true_eq] at h1)
      omega
    obtain ⟨p, xs, rfl, ep, hx⟩ := (hd.same s1).tup_inv
    refine iteF ⟨_, rfl, p, rfl, ⟨xs, sqt ep⟩, fun C hC => lc_it (walk_tup (xs := xs)) (CPv (fun _ v (b : Bool) => v = .bl b) (ds.map pairOk) H1 C) (cpv_start hC) (fun i H2 _ pv2 => sqt (pv2.1 _ _ ep)) ?_ ?_⟩
    · rintro i x H2 H3 hi pv2 ⟨rfl, hxi⟩
      obtain ⟨di, hdi, ri⟩ := hx.getV hxi
      have rx := ri.same pv2.1
      have fin : ∀ H4 b, Same H3 H4 → b = pairOk di → ∃ acc, H4 C = some (.lst acc) ∧ acc.length < sizeLine ∧ CPv (fun _ v (b : Bool) => v = .bl b) (ds.map pairOk) H1 C (i + 1) (upd H4 C (.lst (acc ++ [.bl b]))) := fun H4 b s4 eb =>
        cpv_fin (fun _ _ _ _ _ r => r) hC (by rw [List.length_map]; omega) (by rw [List.getElem?_map, hdi]; rfl) pv2 s4 (by rw [eb])
      refine ⟨rfl, x, rfl, x, di, "tuple", rfl, by decide, rx, _, rfl, ?_⟩
      cases di with
      | tup es =>
        obtain ⟨b, ys, rfl, eb, hy⟩ := rx.tup_inv
        refine iteT ⟨_, rfl, .ref b, ys.length, rfl, .inr ⟨ys, sqt eb, rfl⟩, rfl, _, rfl, ?_⟩
        cases e2 : decide (V.int (ys.length : Int) = V.int 2) with
        | false =>
          refine iteF (fin _ _ (Same.refl _) ?_)
          have h2 := of_decide_eq_false e2
          have h3 : es.length ≠ 2 := fun z => h2 (congrArg V.int (by rw [hy.1, z]; rfl))
          match es, h3 with
          | [], _ => rfl
          | [_], _ => rfl
          | [_, _], h => exact absurd rfl h
          | _ :: _ :: _ :: _, _ => rfl
        | true =>
          have h2 : es.length = 2 := by
            have := V.int.inj (of_decide_eq_true e2)
            have := hy.1
            omega
          obtain ⟨a, c, rfl⟩ := two_of h2
          obtain ⟨x0, e0, r0⟩ := hy.get (i := 0) (d := a) rfl
          exact iteT ⟨_, rfl, b, ys, 0, x0, rfl, rfl, sqt eb, atI_nat (j := 0) e0, x0, a, 1, 9, rfl, r0, fun H4 s4 => fin H4 _ s4 rfl⟩
      | _ => exact iteF (fin _ _ (Same.refl _) rfl)
    · intro H2 pv2
      obtain ⟨s2, ys, ey, ay⟩ := cpv_done (by rw [List.length_map, hx.1]; exact Nat.le_refl _) pv2
      have e := all2_bl ay
      refine ⟨C, ds.map pairOk, rfl, sql (by rw [ey, e]), ?_⟩
      have k2 := k H2 (s1.trans s2)
      have : ((ds.map pairOk).all id) = pairsOk (.tup ds) := by
        rw [pairsOk_tup, em, Bool.true_and, List.all_map]
        rfl
      rw [this]
      exact k2
end
end K6
set_option maxHeartbeats 4000001
namespace K6
open L2 PySem PySem.Spec PyProof.Rows
theorem W_just : W "just" = [106, 117, 115, 116] := by decide +kernel
theorem W_some : W "some" = [115, 111, 109, 101] := by decide +kernel
theorem W_from : W "from" = [102, 114, 111, 109] := by decide +kernel
theorem W_mix : W "mix" = [109, 105, 120] := by decide +kernel
theorem W_all : W "all" = [97, 108, 108] := by decide +kernel
theorem W_row : W "row" = [114, 111, 119] := by decide +kernel
theorem W_turn : W "turn" = [116, 117, 114, 110] := by decide +kernel
theorem W_keep : W "keep" = [107, 101, 101, 112] := by decide +kernel
theorem W_let : W "let" = [108, 101, 116] := by decide +kernel
theorem W_var : W "var" = [118, 97, 114] := by decide +kernel
theorem W_upto : W "upto" = [117, 112, 116, 111] := by decide +kernel
theorem W_times : W "times" = [116, 105, 109, 101, 115] := by decide +kernel
theorem W_grow : W "grow" = [103, 114, 111, 119] := by decide +kernel
theorem W_again : W "again" = [97, 103, 97, 105, 110] := by decide +kernel
def lenOf (w : List Nat) : Nat :=
  if w = W "again" then 1
  else if w = W "just" ∨ w = W "some" ∨ w = W "mix" ∨ w = W "all" ∨ w = W "var" ∨ w = W "upto" then 2
  else if w = W "from" ∨ w = W "turn" ∨ w = W "times" then 3
  else if w = W "row" ∨ w = W "keep" ∨ w = W "let" ∨ w = W "grow" then 4 else 0
def turnW : List (List Nat) := turnS.map W
def testW : List (List Nat) := testS.map W
def inW (l : List (List Nat)) : D → Bool
  | .str w => decide (w ∈ l)
  | _ => false
def rowOk : D → D → Bool
  | .int i, b => amg 0 6 (.int i) && amg i 6 b
  | _, _ => false
def hfW (w : List Nat) (args : List D) : Bool :=
  if w = W "mix" then pairsOk (args.getD 0 .non)
  else if w = W "all" then mny 0 6 (args.getD 0 .non)
  else if w = W "row" then rowOk (args.getD 0 .non) (args.getD 1 .non)
  else if w = W "turn" then inW turnW (args.getD 0 .non)
  else if w = W "keep" then inW testW (args.getD 0 .non) && amg 0 3 (args.getD 1 .non)
  else if w = W "grow" then amg 0 3 (args.getD 0 .non)
  else if w = W "let" ∨ w = W "times" then isName (args.getD 0 .non)
  else leafOk w args
def hf : D → Bool
  | .tup (.str w :: args) => decide (args.length + 1 = lenOf w) && hfW w args
  | _ => false
def sndD : D → D
  | .tup [_, b] => b
  | _ => .non
def tupL : D → List D
  | .tup ds => ds
  | _ => []
def strL : D → List Nat
  | .str w => w
  | _ => []
def kidsG : D → List D
  | .tup (.str w :: args) =>
    if w = W "mix" then (tupL (args.getD 0 .non)).map sndD
    else if w = W "all" then tupL (args.getD 0 .non)
    else if w = W "let" ∨ w = W "grow" then args.drop 1
    else if w = W "row" ∨ w = W "turn" ∨ w = W "keep" ∨ w = W "times" then [args.getLastD .non]
    else []
  | _ => []
abbrev Nms := List (List Nat)
abbrev GB := D × Nms × Bool
def scG : GB → List GB
  | (.tup (.str w :: args), ns, gr) =>
    if w = W "let" then [(args.getD 1 .non, ns, gr), (args.getD 2 .non, ns ++ [strL (args.getD 0 .non)], gr)]
    else if w = W "grow" then [(args.getD 1 .non, ns, gr), (args.getD 2 .non, ns, true)]
    else (kidsG (.tup (.str w :: args))).map fun d => (d, ns, gr)
  | _ => []
def stG : GB → Bool
  | (.tup (.str w :: args), ns, gr) => if w = W "var" ∨ w = W "upto" ∨ w = W "times" then decide (strL (args.getD 0 .non) ∈ ns) else gr || decide (w ≠ W "again")
  | _ => false
def okG (b : GB) : Bool := hf b.1 && stG b
section
variable {β : Type} (ok : β → Bool) (sub : β → List β)
def subs (it : List Nat × β) : List (List Nat × β) := (sub it.2).zipIdx.map fun p => (it.1 ++ [p.2], p.1)
def sw : Nat → List (List Nat × β) → Option (List Nat)
  | _, [] => none
  | 0, it :: _ => some it.1
  | n + 1, it :: left => if 5 < it.1.length ∨ ok it.2 = false then some it.1 else sw n (subs sub it ++ left)
def tokS : Nat → β → Bool
  | 0, _ => false
  | n + 1, b => ok b && (sub b).all (tokS n)
def cntS : Nat → β → Nat
  | 0, _ => 1
  | n + 1, b => 1 + ((sub b).map (cntS n)).sum
end
section
variable {β : Type} {ok : β → Bool} {sub : β → List β}
theorem cntS_pos (n : Nat) (d : β) : 1 ≤ cntS sub n d := by
  cases n with
  | zero => exact Nat.le_refl _
  | succ n => simp [cntS]
def icntS (sub : β → List β) (it : List Nat × β) : Nat := cntS sub (6 - it.1.length) it.2
theorem sw_none : ∀ {n : Nat} {left : List (List Nat × β)}, sw ok sub n left = none →
    (∀ it ∈ left, it.1.length ≤ 5 ∧ tokS ok sub (6 - it.1.length) it.2 = true) ∧ (left.map (icntS sub)).sum ≤ n
  | _, [], _ => ⟨fun it h => by simp at h, by simp⟩
  | 0, it :: left, h => by simp [sw] at h
  | n + 1, (way, d) :: left, h => by
    unfold sw at h
    split at h
    · cases h
    · rename_i hc
      simp only [not_or, Nat.not_lt, Bool.not_eq_false] at hc
      obtain ⟨h1, h2⟩ := sw_none h
      obtain ⟨n6, e6⟩ : ∃ k, 6 - way.length = k + 1 := ⟨5 - way.length, by have := hc.1; omega⟩
      have e61 : 6 - (way.length + 1) = n6 := by omega
      have hk : ∀ d' ∈ sub d, tokS ok sub n6 d' = true := by
        have := zip_map_fst (sub d) (fun d k => ((way ++ [k], d) : List Nat × β)) 0 (fun it => tokS ok sub (6 - it.1.length) it.2 = true) (fun b hb => (h1 b (List.mem_append_left _ hb)).2)
        intro d hd
        obtain ⟨j, hj⟩ := this d hd
        simp only [List.length_append, List.length_singleton, e61] at hj
        exact hj
      have hs : ((subs sub (way, d)).map (icntS sub)).sum = ((sub d).map (cntS sub n6)).sum := by
        unfold subs
        rw [List.map_map]
        have : ((sub d).zipIdx.map (icntS sub ∘ fun p => ((way ++ [p.2], p.1) : List Nat × β))) = (sub d).map (cntS sub n6) := by
          apply List.ext_getElem
          · simp
          · intro i _ _
            simp [icntS, e61]
        rw [this]
      refine ⟨fun it hit => ?_, ?_⟩
      · rcases List.mem_cons.mp hit with e | hit
        · subst e
          refine ⟨hc.1, ?_⟩
          show tokS ok sub (6 - way.length) d = true
          rw [e6]
          show (ok d && (sub d).all (tokS ok sub n6)) = true
          rw [hc.2, Bool.true_and, List.all_eq_true]
          exact hk
        · exact h1 it (List.mem_append_right _ hit)
      · rw [List.map_append, List.sum_append, hs] at h2
        (rw [List.map_cons, List.sum_cons])
        have : icntS sub (way, d) = 1 + ((sub d).map (cntS sub n6)).sum := by
          unfold icntS
          simp only [e6, cntS]
        omega
theorem sw_good : ∀ {n : Nat} {left : List (List Nat × β)}, (∀ it ∈ left, it.1.length ≤ 5 ∧ tokS ok sub (6 - it.1.length) it.2 = true) → (left.map (icntS sub)).sum ≤ n → sw ok sub n left = none
  | _, [], _, _ => by simp [sw]
  | 0, it :: left, _, hs => by
    rw [List.map_cons, List.sum_cons] at hs
    have := cntS_pos (sub := sub) (6 - it.1.length) it.2
    unfold icntS at hs
    omega
  | n + 1, (way, d) :: left, h1, hs => by
    obtain ⟨hw, hk⟩ := h1 (way, d) List.mem_cons_self
    have hw : way.length ≤ 5 := hw
    obtain ⟨n6, e6⟩ : ∃ k, 6 - way.length = k + 1 := ⟨5 - way.length, by omega⟩
    have hk : tokS ok sub (6 - way.length) d = true := hk
    rw [e6] at hk
    have e61 : 6 - (way.length + 1) = n6 := by omega
    unfold sw
    have hk' : (ok d && (sub d).all (tokS ok sub n6)) = true := hk
    rw [Bool.and_eq_true, List.all_eq_true] at hk'
    rw [if_neg (by simp [hk'.1]; exact hw)]
    have hc : icntS sub (way, d) = 1 + ((sub d).map (cntS sub n6)).sum := by
      unfold icntS
      simp only [e6, cntS]
    rw [List.map_cons, List.sum_cons, hc] at hs
    refine sw_good (fun it hit => ?_) ?_
    · rcases List.mem_append.mp hit with hit | hit
      · obtain ⟨p, hp, e⟩ := List.mem_map.mp hit
        subst e
        have hpm : p.1 ∈ sub d := by
          obtain ⟨_, _, e⟩ := List.mem_zipIdx hp
          rw [e]
          exact List.getElem_mem _
        refine ⟨?_, ?_⟩
        · simp only [List.length_append, List.length_singleton]
          cases n6 with
          | zero =>
            have := hk'.2 _ hpm
            simp [tokS] at this
          | succ m => omega
        · simp only [List.length_append, List.length_singleton, e61]
          exact hk'.2 _ hpm
      · exact h1 it (List.mem_cons_of_mem _ hit)
    · rw [List.map_append, List.sum_append]
      have hs2 : ((subs sub (way, d)).map (icntS sub)).sum = ((sub d).map (cntS sub n6)).sum := by
        unfold subs
        rw [List.map_map]
        have : ((sub d).zipIdx.map (icntS sub ∘ fun p => ((way ++ [p.2], p.1) : List Nat × β))) = (sub d).map (cntS sub n6) := by
          apply List.ext_getElem
          · simp
          · intro i _ _
            simp [icntS, e61]
        rw [this]
      rw [hs2]
      omega
theorem sw_start {d : β} {n : Nat} : sw ok sub n [([], d)] = none ↔ tokS ok sub 6 d = true ∧ cntS sub 6 d ≤ n := by
  constructor
  · intro h
    obtain ⟨h1, h2⟩ := sw_none h
    refine ⟨(h1 _ List.mem_cons_self).2, ?_⟩
    simpa [icntS] using h2
  · rintro ⟨h1, h2⟩
    refine sw_good (fun it hit => ?_) (by simpa [icntS] using h2)
    simp at hit
    subst hit
    exact ⟨Nat.zero_le _, h1⟩
end
def gw (d : D) : Option (List Nat) := sw okG scG 24 [([], d, [], false)]
def gnD (s : String) (args : List D) : D := .tup (.str (W s) :: args)
inductive HF : D → Prop
  | just (t : D) : own t = true → HF (gnD "just" [t])
  | some (ts : List D) : 1 ≤ ts.length → ts.length ≤ 9 → (∀ t ∈ ts, own t = true) → HF (gnD "some" [.tup ts])
  | from (i j : Int) : span (.int i) (.int j) = true → HF (gnD "from" [.int i, .int j])
  | mix (ps : List (Int × D)) : 1 ≤ ps.length → ps.length ≤ 6 → (∀ p ∈ ps, 1 ≤ p.1 ∧ p.1 ≤ 9) → HF (gnD "mix" [.tup (ps.map fun p => .tup [.int p.1, p.2])])
  | all (ds : List D) : ds.length ≤ 6 → HF (gnD "all" [.tup ds])
  | row (i j : Int) (d : D) : 0 ≤ i → i ≤ j → j ≤ 6 → HF (gnD "row" [.int i, .int j, d])
  | turn (w : List Nat) (d : D) : w ∈ turnW → HF (gnD "turn" [.str w, d])
  | keep (w : List Nat) (n : Int) (d : D) : w ∈ testW → 0 ≤ n → n ≤ 3 → HF (gnD "keep" [.str w, .int n, d])
  | let (x : List Nat) (c d : D) : isNm x = true → HF (gnD "let" [.str x, c, d])
  | var (x : List Nat) : isNm x = true → HF (gnD "var" [.str x])
  | upto (x : List Nat) : isNm x = true → HF (gnD "upto" [.str x])
  | times (x : List Nat) (d : D) : isNm x = true → HF (gnD "times" [.str x, d])
  | grow (n : Int) (c d : D) : 0 ≤ n → n ≤ 3 → HF (gnD "grow" [.int n, c, d])
  | again : HF (gnD "again" [])
theorem amg_inv {lo hi : Int} {d : D} (h : amg lo hi d = true) : ∃ i, d = .int i ∧ lo ≤ i ∧ i ≤ hi := by
  cases d with
  | int i =>
    have h1 : (decide (lo ≤ i) && decide (i ≤ hi)) = true := h
    (rw [Bool.and_eq_true, decide_eq_true_eq, decide_eq_true_eq] at h1)
    exact ⟨i, rfl, h1⟩
  | _ => cases h
theorem isName_inv {d : D} (h : isName d = true) : ∃ x, d = .str x ∧ isNm x = true := by
  cases d <;> first | exact ⟨_, rfl, h⟩ | cases h
theorem inW_inv {l : List (List Nat)} {d : D} (h : inW l d = true) : ∃ x, d = .str x ∧ x ∈ l := by
  cases d <;> first | exact ⟨_, rfl, of_decide_eq_true h⟩ | cases h
theorem pair_inv {d : D} (h : pairOk d = true) : ∃ i b, d = .tup [.int i, b] ∧ 1 ≤ i ∧ i ≤ 9 := by
  match d, h with
  | .tup [a, b], h =>
    obtain ⟨i, rfl, h1⟩ := amg_inv (show amg 1 9 a = true from h)
    exact ⟨i, b, rfl, h1⟩
theorem pairs_inv : ∀ {ds : List D}, ds.all pairOk = true → ∃ ps : List (Int × D), ds = ps.map (fun p => .tup [.int p.1, p.2]) ∧ ∀ p ∈ ps, 1 ≤ p.1 ∧ p.1 ≤ 9
  | [], _ => ⟨[], rfl, fun p h => by cases h⟩
  | d :: r, h => by
    (rw [List.all_cons, Bool.and_eq_true] at h)
    obtain ⟨i, b, rfl, h1⟩ := pair_inv h.1
    obtain ⟨ps, rfl, h2⟩ := pairs_inv h.2
    exact ⟨(i, b) :: ps, rfl, fun p hp => by
      (rcases List.mem_cons.mp hp with e | hp)
      · subst e
        exact h1
      · exact h2 p hp⟩
theorem len_one {es : List D} (h : es.length + 1 = 2) : ∃ a, es = [a] := by
  match es, h with
  | [a], _ => exact ⟨a, rfl⟩
theorem len_two {es : List D} (h : es.length + 1 = 3) : ∃ a b, es = [a, b] := by
  match es, h with
  | [a, b], _ => exact ⟨a, b, rfl⟩
theorem len_three {es : List D} (h : es.length + 1 = 4) : ∃ a b c, es = [a, b, c] := by
  match es, h with
  | [a, b, c], _ => exact ⟨a, b, c, rfl⟩
theorem hf_inv {d : D} (h : hf d = true) : HF d := by
  match d, h with
  | .tup (.str w :: args), h =>
    have h1 : (decide (args.length + 1 = lenOf w) && hfW w args) = true := h
    rw [Bool.and_eq_true, decide_eq_true_eq] at h1
    obtain ⟨hl, hh⟩ := h1
    by_cases e : w = W "mix"
    · subst e
      obtain ⟨a, rfl⟩ := len_one (hl.trans (by decide +kernel))
      have hh : pairsOk a = true := hh
      have h2 : mny 1 6 a = true ∧ (tupL a).all pairOk = true := by
        cases a with
        | tup ds =>
          rw [pairsOk_tup, Bool.and_eq_true] at hh
          exact hh
        | _ => cases hh
      obtain ⟨ds, rfl, l1, l2⟩ := mny_inv h2.1
      obtain ⟨ps, rfl, hp⟩ := pairs_inv h2.2
      rw [List.length_map] at l1 l2
      exact .mix ps (by omega) (by omega) hp
    by_cases e : w = W "all"
    · subst e
      obtain ⟨a, rfl⟩ := len_one (hl.trans (by decide +kernel))
      obtain ⟨ds, rfl, l1, l2⟩ := mny_inv (show mny 0 6 a = true from hh)
      exact .all ds (by omega)
    by_cases e : w = W "row"
    · subst e
      obtain ⟨a, b, c, rfl⟩ := len_three (hl.trans (by decide +kernel))
      have hh : rowOk a b = true := hh
      cases a with
      | int i =>
        have h2 : (amg 0 6 (.int i) && amg i 6 b) = true := hh
        rw [Bool.and_eq_true] at h2
        obtain ⟨_, e1, h3⟩ := amg_inv h2.1
        cases e1
        obtain ⟨j, rfl, h4⟩ := amg_inv h2.2
        exact .row i j c h3.1 h4.1 h4.2
      | _ => cases hh
    by_cases e : w = W "turn"
    · subst e
      obtain ⟨a, b, rfl⟩ := len_two (hl.trans (by decide +kernel))
      obtain ⟨x, rfl, hx⟩ := inW_inv (show inW turnW a = true from hh)
      exact .turn x b hx
    by_cases e : w = W "keep"
    · subst e
      obtain ⟨a, b, c, rfl⟩ := len_three (hl.trans (by decide +kernel))
      have h2 : (inW testW a && amg 0 3 b) = true := hh
      rw [Bool.and_eq_true] at h2
      obtain ⟨x, rfl, hx⟩ := inW_inv h2.1
      obtain ⟨j, rfl, h4⟩ := amg_inv h2.2
      exact .keep x j c hx h4.1 h4.2
    by_cases e : w = W "grow"
    · subst e
      obtain ⟨a, b, c, rfl⟩ := len_three (hl.trans (by decide +kernel))
      obtain ⟨j, rfl, h4⟩ := amg_inv (show amg 0 3 a = true from hh)
      exact .grow j b c h4.1 h4.2
    by_cases e : w = W "let"
    · subst e
      obtain ⟨a, b, c, rfl⟩ := len_three (hl.trans (by decide +kernel))
      obtain ⟨x, rfl, hx⟩ := isName_inv (show isName a = true from hh)
      exact .let x b c hx
    by_cases e : w = W "times"
    · subst e
      obtain ⟨a, b, rfl⟩ := len_two (hl.trans (by decide +kernel))
      obtain ⟨x, rfl, hx⟩ := isName_inv (show isName a = true from hh)
      exact .times x b hx
    by_cases e : w = W "just"
    · subst e
      obtain ⟨a, rfl⟩ := len_one (hl.trans (by decide +kernel))
      exact .just a hh
    by_cases e : w = W "some"
    · subst e
      obtain ⟨a, rfl⟩ := len_one (hl.trans (by decide +kernel))
      have hh : somesOk a = true := hh
      have h2 : mny 1 9 a = true ∧ (tupL a).all own = true := by
        cases a with
        | tup ds =>
          rw [somesOk_tup, Bool.and_eq_true] at hh
          exact hh
        | _ => cases hh
      obtain ⟨ds, rfl, l1, l2⟩ := mny_inv h2.1
      exact .some ds (by omega) (by omega) (List.all_eq_true.mp h2.2)
    by_cases e : w = W "from"
    · subst e
      obtain ⟨a, b, rfl⟩ := len_two (hl.trans (by decide +kernel))
      have hh : span a b = true := hh
      cases a with
      | int i =>
        cases b with
        | int j => exact .from i j hh
        | _ => cases hh
      | _ => cases hh
    by_cases e : w = W "again"
    · subst e
      have hl : args.length + 1 = 1 := hl.trans (by decide +kernel)
      obtain rfl : args = [] := List.eq_nil_of_length_eq_zero (by omega)
      exact .again
    by_cases e : w = W "var"
    · subst e
      obtain ⟨a, rfl⟩ := len_one (hl.trans (by decide +kernel))
      obtain ⟨x, rfl, hx⟩ := isName_inv (show isName a = true from hh)
      exact .var x hx
    by_cases e : w = W "upto"
    · subst e
      obtain ⟨a, rfl⟩ := len_one (hl.trans (by decide +kernel))
      obtain ⟨x, rfl, hx⟩ := isName_inv (show isName a = true from hh)
      exact .upto x hx
    have : lenOf w = 0 := by simp [lenOf, *]
    omega
theorem hf_of {d : D} (h : HF d) : hf d = true := by
  have go : ∀ (s : String) (args : List D), args.length + 1 = lenOf (W s) → hfW (W s) args = true → hf (gnD s args) = true := fun s args h1 h2 => by
    show (decide (args.length + 1 = lenOf (W s)) && hfW (W s) args) = true
    rw [decide_eq_true h1, h2]
    rfl
  have am : ∀ {lo hi i : Int}, lo ≤ i → i ≤ hi → amg lo hi (.int i) = true := fun {lo hi i} h1 h2 => by
    show (decide (lo ≤ i) && decide (i ≤ hi)) = true
    rw [decide_eq_true h1, decide_eq_true h2]
    rfl
  have mn : ∀ {lo hi : Int} {ds : List D}, lo ≤ (ds.length : Int) → (ds.length : Int) ≤ hi → mny lo hi (.tup ds) = true := fun {lo hi ds} h1 h2 => by
    show (decide (lo ≤ (ds.length : Int)) && decide ((ds.length : Int) ≤ hi)) = true
    rw [decide_eq_true h1, decide_eq_true h2]
    rfl
  cases h with
  | just t h => exact go "just" [t] (by show 2 = _; decide +kernel) h
  | some ts h1 h2 h =>
    refine go "some" [.tup ts] (by show 2 = _; decide +kernel) ?_
    show somesOk (.tup ts) = true
    rw [somesOk_tup, mn (by omega) (by omega), Bool.true_and, List.all_eq_true]
    exact h
  | «from» i j h => exact go "from" [.int i, .int j] (by show 3 = _; decide +kernel) h
  | mix ps h1 h2 h =>
    refine go "mix" [.tup (ps.map fun p => .tup [.int p.1, p.2])] (by show 2 = _; decide +kernel) ?_
    show pairsOk (.tup _) = true
    rw [pairsOk_tup, mn (by rw [List.length_map]; omega) (by rw [List.length_map]; omega), Bool.true_and, List.all_map, List.all_eq_true]
    exact fun p hp => am (h p hp).1 (h p hp).2
  | all ds h1 => exact go "all" [.tup ds] (by show 2 = _; decide +kernel) (show mny 0 6 (.tup ds) = true from mn (by omega) (by omega))
  | row i j d h1 h2 h3 =>
    refine go "row" [.int i, .int j, d] (by show 4 = _; decide +kernel) ?_
    show (amg 0 6 (.int i) && amg i 6 (.int j)) = true
    rw [am h1 (by omega), am h2 h3]
    rfl
  | turn w d h => exact go "turn" [.str w, d] (by show 3 = _; decide +kernel) (decide_eq_true h)
  | keep w n d h h1 h2 =>
    refine go "keep" [.str w, .int n, d] (by show 4 = _; decide +kernel) ?_
    show (inW testW (.str w) && amg 0 3 (.int n)) = true
    rw [am h1 h2, show inW testW (.str w) = true from decide_eq_true h]
    rfl
  | «let» x c d h => exact go "let" [.str x, c, d] (by show 4 = _; decide +kernel) h
  | var x h => exact go "var" [.str x] (by show 2 = _; decide +kernel) h
  | upto x h => exact go "upto" [.str x] (by show 2 = _; decide +kernel) h
  | times x d h => exact go "times" [.str x, d] (by show 3 = _; decide +kernel) h
  | grow n c d h1 h2 => exact go "grow" [.int n, c, d] (by show 4 = _; decide +kernel) (am h1 h2)
  | again => exact go "again" [] (by show 1 = _; decide +kernel) rfl
end K6
set_option maxHeartbeats 4000001
namespace K6
open L2 PySem PySem.Spec PyProof.Rows
theorem str_one {d : D} (h : isTy "str" d = true) : ∃ w, d = .str w := by
  cases d with
  | str w => exact ⟨w, rfl⟩
  | _ => simp [isTy] at h
theorem rep_str {H : Hp} {v : V} {w : List Nat} (r : Rep H v (.str w)) : v = .str (S w) := by cases r; rfl
theorem mem_W {w : List Nat} {l : List String} : S w ∈ l.map Str.ofString ↔ w ∈ l.map W := by
  constructor
  · intro h
    obtain ⟨s, hs, e⟩ := List.mem_map.mp h
    refine List.mem_map.mpr ⟨s, hs, ?_⟩
    rw [← S_W] at e
    exact S_inj' e
  · intro h
    obtain ⟨s, hs, rfl⟩ := List.mem_map.mp h
    exact List.mem_map.mpr ⟨s, hs, (S_W s).symm⟩
theorem dmem {w : List Nat} {l : List String} {m : List Str} {k : List (List Nat)} (e1 : m = l.map Str.ofString) (e2 : k = l.map W) : decide (S w ∈ m) = decide (w ∈ k) := by
  subst e1 e2
  by_cases h : w ∈ l.map W
  · rw [decide_eq_true h, decide_eq_true (mem_W.mpr h)]
  · rw [decide_eq_false h, decide_eq_false fun z => h (mem_W.mp z)]
section
variable {P : Program}
variable {w : World} {K : PySem.W.Frag} {mg : Str → Option Value} {base : Heap}
abbrev s_has_leaf_form : Stmt := top 76
abbrev N_has_leaf_form : List Str := ["thing", "word", "one"]
theorem sc_has_leaf_form : FnScope N_has_leaf_form ["thing"] (defScope s_has_leaf_form) := ⟨rfl, rfl, rfl, by decide +kernel, rfl, by decide +kernel, by decide +kernel⟩
theorem cl_has_leaf_form (F : Df K mg "has_leaf_form" s_has_leaf_form ["thing"]) (T : Tx mg) (c_is_own : Cl P w K mg base 4 "is_own" (spB own)) (c_are_many : Cl P w K mg base 1 "are_many" sp_many) (c_is_span : Cl P w K mg base 3 "is_span" sp_span) (c_is_name : Cl P w K mg base 1 "is_name" (spB isName)) :
    Cl P w K mg base 5 "has_leaf_form" sp_leaf := by
  refine F.cl sc_has_leaf_form (fun vs H Q E h => by obtain ⟨_, _, _, rfl, _⟩ := h; rfl) (fun f cdv A outer s H vs Q E hr h => ?_)
  have nd := sc_has_leaf_form.nd
  obtain ⟨v, w, args, rfl, hd, h1, h2, k⟩ := h
  refine ⟨_, (pss_cons (pset 1 nd (pe_ix (ix_tupK K) (pv 0) pe_int (fun _ _ => rfl)))
    (pss_cons (ps_if (pt_cmpR op_eq (pv 1) pe_str (nomark _)) (pss_one (ps_ret (pf c_is_own hr (by omega) rfl (pa_cons (pe_ix (ix_tupK K) (pv 0) pe_int (fun _ _ => rfl)) pa_nil)))) pss_nil)
    (pss_cons (ps_if (pt_cmpR op_eq (pv 1) pe_str (nomark _)) (pss_one (ps_ret (pe_and (pf c_are_many hr (by omega) rfl (pa_cons (pe_ix (ix_tupK K) (pv 0) pe_int (fun _ _ => rfl)) (pa_cons pe_int (pa_cons (C8.pe_gc rfl T.g_MOST_SOME) pa_nil)))) (pe_one (pe_callB (call_allK K rfl) rfl T.n_all bb_all (pa_cons (pe_lc (own := [("one", 2)]) rfl nd (pi_tupK K (pe_ix (ix_tupK K) (pv 0) pe_int (fun _ _ => rfl))) (blkOk_by (own := [("one", 2)]) (N := N_has_leaf_form) (sc := defScope s_has_leaf_form) (by decide +kernel)) (fun _ _ _ _ _ => (pgn 2 nd)) (fun _ _ _ _ _ => pts_nil) (fun _ _ _ _ _ => (pf c_is_own hr (by omega) rfl (pa_cons (pv 2) pa_nil)))) pa_nil)))))) pss_nil)
    (pss_cons (ps_if (pt_cmpR op_eq (pv 1) pe_str (nomark _)) (pss_one (ps_ret (pf c_is_span hr (by omega) rfl (pa_cons (pv 0) pa_nil)))) pss_nil)
    (pss_one (ps_ret (pe_or (pe_cmpR op_eq (pv 1) pe_str (nomark _)) (pe_one (pf c_is_name hr (by omega) rfl (pa_cons (pe_ix (ix_tupK K) (pv 0) pe_int (fun _ _ => rfl)) pa_nil)))))))))), ?_⟩
  obtain ⟨p, xs, rfl, ep, hx⟩ := hd.tup_inv
  obtain ⟨x0, e0, r0⟩ := hx.get (i := 0) (d := .str w) rfl
  obtain rfl := rep_str r0
  refine ⟨_, rfl, p, xs, 0, _, rfl, rfl, sqt ep, atI_nat (j := 0) e0, ?_⟩
  (refine ⟨_, rfl, rfl, _, rfl, ?_⟩)
  rw [dstr w "just"]
  have arg : w ≠ W "again" → ∃ x a, xs[1]? = some x ∧ Rep H x a ∧ args.getD 0 .non = a := fun hw => by
    have hl := h1 hw
    match args, hl with
    | a :: r, _ =>
      obtain ⟨x, e, r⟩ := hx.get (i := 1) (d := a) rfl
      exact ⟨x, a, e, r, rfl⟩
  by_cases ej : w = W "just"
  · rw [decide_eq_true ej]
    obtain ⟨x, a, e, r, ea⟩ := arg (by rw [ej]; decide +kernel)
    refine iteT ⟨_, rfl, p, xs, 1, _, rfl, rfl, sqt ep, atI_nat (j := 1) e, x, a, rfl, r, ?_⟩
    have : leafOk w args = own a := by
      unfold leafOk
      rw [if_pos ej, ea]
    rw [← this]
    exact k
  rw [decide_eq_false ej]
  refine iteF ⟨_, rfl, rfl, _, rfl, ?_⟩
  rw [dstr w "some"]
  by_cases es : w = W "some"
  · rw [decide_eq_true es]
    obtain ⟨x, a, e, r, ea⟩ := arg (by rw [es]; decide +kernel)
    have el : leafOk w args = somesOk a := by
      unfold leafOk
      rw [if_neg ej, if_pos es, ea]
    rw [el] at k
    refine iteT ⟨_, rfl, p, xs, 1, _, rfl, rfl, sqt ep, atI_nat (j := 1) e, x, a, 1, 9, rfl, r, fun H1 s1 => ⟨_, rfl, ?_⟩⟩
    cases em : mny 1 9 a with
    | false =>
      have : somesOk a = false := by
        cases a <;> first | rfl | (rw [somesOk_tup, em, Bool.false_and])
      rw [this] at k
      exact iteF (k H1 s1)
    | true =>
      obtain ⟨ds, rfl, l1, l2⟩ := mny_inv em
      obtain ⟨b, ys, rfl, eb, hy⟩ := r.tup_inv
      refine iteT ⟨_, rfl, p, xs, 1, _, rfl, rfl, sqt (s1 _ _ ep), atI_nat (j := 1) e, b, rfl, ⟨ys, sqt (s1 _ _ eb)⟩, fun C hC => lc_it (walk_tup (xs := ys)) (CPv (fun _ v (b : Bool) => v = .bl b) (ds.map own) H1 C) (cpv_start hC) (fun i H2 _ pv2 => sqt (pv2.1 _ _ (s1 _ _ eb))) ?_ ?_⟩
      · rintro i x H2 H3 hi pv2 ⟨rfl, hxi⟩
        obtain ⟨di, hdi, ri⟩ := hy.getV hxi
        refine ⟨rfl, x, rfl, x, di, rfl, (ri.same s1).same pv2.1, fun H4 s4 => ?_⟩
        exact cpv_fin (fun _ _ _ _ _ r => r) hC (by rw [List.length_map]; omega) (by rw [List.getElem?_map, hdi]; rfl) pv2 s4 rfl
      · intro H2 pv2
        obtain ⟨s2, zs, ez, az⟩ := cpv_done (by rw [List.length_map, hy.1]; exact Nat.le_refl _) pv2
        have e := all2_bl az
        refine ⟨C, ds.map own, rfl, sql (by rw [ez, e]), ?_⟩
        have : ((ds.map own).all id) = somesOk (.tup ds) := by
          rw [somesOk_tup, em, Bool.true_and, List.all_map]
          rfl
        rw [this]
        exact k H2 (s1.trans s2)
  rw [decide_eq_false es]
  refine iteF ⟨_, rfl, rfl, _, rfl, ?_⟩
  rw [dstr w "from"]
  by_cases ef : w = W "from"
  · rw [decide_eq_true ef]
    obtain ⟨b, c, rfl⟩ := two_of (h2 ef)
    refine iteT ⟨_, rfl, .ref p, .str w, b, c, rfl, hd, ?_⟩
    have : leafOk w [b, c] = span b c := by
      unfold leafOk
      rw [if_neg ej, if_neg es, if_pos ef]
      rfl
    rw [← this]
    exact k
  rw [decide_eq_false ef]
  refine iteF ⟨_, rfl, rfl, _, rfl, ?_⟩
  rw [dstr w "again"]
  by_cases ea : w = W "again"
  · rw [decide_eq_true ea]
    have : leafOk w args = true := by
      unfold leafOk
      rw [if_neg ej, if_neg es, if_neg ef, if_pos ea]
    rw [this] at k
    exact iteT (k H (Same.refl H))
  rw [decide_eq_false ea]
  obtain ⟨x, a, e, r, eaa⟩ := arg ea
  refine iteF ⟨_, rfl, p, xs, 1, _, rfl, rfl, sqt ep, atI_nat (j := 1) e, x, a, rfl, r, ?_⟩
  have : leafOk w args = isName a := by
    unfold leafOk
    rw [if_neg ej, if_neg es, if_neg ef, if_neg ea, eaa]
  rw [← this]
  exact k
theorem inV_str (w : List Nat) (ns : List (List Nat)) : inV (.str (S w)) (ns.map fun n => V.str (S n)) = decide (w ∈ ns) := by
  unfold inV
  rw [List.any_map]
  by_cases h : w ∈ ns
  · rw [decide_eq_true h, List.any_eq_true]
    exact ⟨w, h, show (S w == S w) = true from beq_self_eq_true _⟩
  · rw [decide_eq_false h, List.any_eq_false]
    intro n hn z
    have z2 := eq_of_beq (show (S n == S w) = true from z)
    exact h ((S_inj' z2) ▸ hn)
theorem inV_W (w : List Nat) (l : List String) : inV (.str (S w)) (l.map fun s => V.str (Str.ofString s)) = decide (w ∈ l.map W) := by
  rw [← inV_str, List.map_map]
  refine congrArg (inV _) ?_
  refine List.map_congr_left fun s _ => ?_
  show V.str _ = V.str (S (W s))
  rw [S_W]
theorem lens_at (w : List Nat) : ((lensK.lookup (S w)).getD (V.int 0)) = V.int (lenOf w : Int) := by
  have key : ∀ l : List (String × Int), (∀ p ∈ l, (lenOf (W p.1) : Int) = p.2) → (∀ w, (∀ p ∈ l, w ≠ W p.1) → lenOf w = 0) → ∀ w, (((l.map fun p => (Str.ofString p.1, V.int p.2)).lookup (S w)).getD (V.int 0)) = V.int (lenOf w : Int) := by
    intro l h1 h2 w
    by_cases hw : ∃ p ∈ l, w = W p.1
    · have : ∀ l : List (String × Int), (∀ p ∈ l, (lenOf (W p.1) : Int) = p.2) → (∃ p ∈ l, w = W p.1) → (((l.map fun p => (Str.ofString p.1, V.int p.2)).lookup (S w)).getD (V.int 0)) = V.int (lenOf w : Int) := by
        intro l
        induction l with
        | nil => rintro _ ⟨p, hp, _⟩; cases hp
        | cons p r ih =>
          intro h1 h
          rw [List.map_cons, List.lookup_cons]
          by_cases e : w = W p.1
          · subst e
            rw [S_W, beq_self_eq_true, h1 p List.mem_cons_self]
            rfl
          · have : (S w == Str.ofString p.1) = false := beq_false_of_ne fun z => e (S_inj' (z.trans (S_W _).symm))
            rw [this]
            refine ih (fun p hp => h1 p (List.mem_cons_of_mem _ hp)) ?_
            obtain ⟨q, hq, eq⟩ := h
            rcases List.mem_cons.mp hq with z | z
            · subst z
              exact absurd eq e
            · exact ⟨q, z, eq⟩
      exact this l h1 hw
    · have hn : ∀ p ∈ l, w ≠ W p.1 := fun p hp e => hw ⟨p, hp, e⟩
      rw [h2 w hn]
      have : (l.map fun p => (Str.ofString p.1, V.int p.2)).lookup (S w) = none := by
        refine lookup_none' fun h => ?_
        rw [List.map_map] at h
        (obtain ⟨p, hp, e⟩ := List.mem_map.mp h)
        exact hn p hp (S_inj' ((show Str.ofString p.1 = S w from e).symm.trans (S_W _).symm))
      rw [this]
      rfl
  refine key [("just", 2), ("some", 2), ("from", 3), ("mix", 2), ("all", 2), ("row", 4), ("turn", 3), ("keep", 4), ("let", 4), ("var", 2), ("upto", 2), ("times", 3), ("grow", 4), ("again", 1)] (by decide +kernel) (fun w h => ?_) w
  simp only [List.mem_cons, List.not_mem_nil, or_false, forall_eq_or_imp, forall_eq] at h
  simp [lenOf, h]
abbrev s_has_form : Stmt := top 77
abbrev N_has_form : List Str := ["thing", "word", "rest"]
theorem sc_has_form : FnScope N_has_form ["thing"] (defScope s_has_form) := ⟨rfl, rfl, rfl, by decide +kernel, rfl, by decide +kernel, by decide +kernel⟩
theorem cl_has_form {aT aS aL : Addr} (F : Df K mg "has_form" s_has_form ["thing"]) (T : Tx mg) (W_TURNS : KTab K w mg "TURNS" (turnS.map Str.ofString) aT) (W_TESTS : KTab K w mg "TESTS" (testS.map Str.ofString) aS) (W_LENGTHS : WTab K w mg "LENGTHS" lensK aL)
    (c_are_pairs : Cl P w K mg base 3 "are_pairs" (spB pairsOk)) (c_are_many : Cl P w K mg base 1 "are_many" sp_many) (c_is_among : Cl P w K mg base 2 "is_among" sp_among) (c_is_name : Cl P w K mg base 1 "is_name" (spB isName)) (c_has_leaf_form : Cl P w K mg base 5 "has_leaf_form" sp_leaf) :
    Cl P w K mg base 6 "has_form" (spB hf) := by
  refine F.cl sc_has_form spB_len (fun f cdv A outer s H vs Q E hr h => ?_)
  have nd := sc_has_form.nd
  obtain ⟨v, d, rfl, hd, k⟩ := h
  refine ⟨_, (pss_cons (ps_if (PW.pt (pw_or (pt_not (pt_val (pe_callB (call_isDK K) rfl T.n_isinstance bb_isinstance (pa_cons (pv 0) (pa_cons (pty (n := "tuple") rfl T.n_tuple bt_tuple) pa_nil))))) (pw_or (pt_cmpR op_eq (pe_callB (call_lenK K) rfl T.n_len PySem.boot_len (pa_cons (pv 0) pa_nil)) pe_int (nomark _)) (pw_or1 (pt_not (pt_val (pe_callB (call_isDK K) rfl T.n_isinstance bb_isinstance (pa_cons (pe_ix (ix_tupK K) (pv 0) pe_int (fun _ _ => rfl)) (pa_cons (pty (n := "str") rfl T.n_str bt_str) pa_nil))))))))) (pss_one (ps_ret pe_bl)) pss_nil)
    (pss_cons (ps_if (pt_cmpR op_ne (pe_callB (call_lenK K) rfl T.n_len PySem.boot_len (pa_cons (pv 0) pa_nil)) (pe_wget2 W_LENGTHS (C8.pe_gc rfl W_LENGTHS.m) (pe_ix (ix_tupK K) (pv 0) pe_int (fun _ _ => rfl)) pe_int ⟨rfl, rfl, rfl, rfl⟩) (nomark _)) (pss_one (ps_ret pe_bl)) pss_nil)
    (pss_cons (ps_asg (pv 0) (pg_star K (i := 1) (j := 2) rfl nd))
    (pss_cons (ps_if (pt_cmpR op_eq (pv 1) pe_str (nomark _)) (pss_one (ps_ret (pf c_are_pairs hr (by omega) rfl (pa_cons (pe_ix (ix_listK K) (pv 2) pe_int (fun _ _ => rfl)) pa_nil)))) pss_nil)
    (pss_cons (ps_if (pt_cmpR op_eq (pv 1) pe_str (nomark _)) (pss_one (ps_ret (pf c_are_many hr (by omega) rfl (pa_cons (pe_ix (ix_listK K) (pv 2) pe_int (fun _ _ => rfl)) (pa_cons pe_int (pa_cons (C8.pe_gc rfl T.g_MOST_JOINED) pa_nil)))))) pss_nil)
    (pss_cons (ps_if (pt_cmpR op_eq (pv 1) pe_str (nomark _)) (pss_one (ps_ret (pe_and (pf c_is_among hr (by omega) rfl (pa_cons (pe_ix (ix_listK K) (pv 2) pe_int (fun _ _ => rfl)) (pa_cons pe_int (pa_cons (C8.pe_gc rfl T.g_MOST_JOINED) pa_nil)))) (pe_one (pf c_is_among hr (by omega) rfl (pa_cons (pe_ix (ix_listK K) (pv 2) pe_int (fun _ _ => rfl)) (pa_cons (pe_ix (ix_listK K) (pv 2) pe_int (fun _ _ => rfl)) (pa_cons (C8.pe_gc rfl T.g_MOST_JOINED) pa_nil)))))))) pss_nil)
    (pss_cons (ps_if (pt_cmpR op_eq (pv 1) pe_str (nomark _)) (pss_one (ps_ret (pe_and (pe_callB (call_isDK K) rfl T.n_isinstance bb_isinstance (pa_cons (pe_ix (ix_listK K) (pv 2) pe_int (fun _ _ => rfl)) (pa_cons (pty (n := "str") rfl T.n_str bt_str) pa_nil))) (pe_one (pe_cmpR (op_inW W_TURNS) (pe_ix (ix_listK K) (pv 2) pe_int (fun _ _ => rfl)) (C8.pe_gc rfl W_TURNS.m) rfl))))) pss_nil)
    (pss_cons (ps_if (pt_cmpR op_eq (pv 1) pe_str (nomark _)) (pss_one (ps_ret (pe_and (pe_callB (call_isDK K) rfl T.n_isinstance bb_isinstance (pa_cons (pe_ix (ix_listK K) (pv 2) pe_int (fun _ _ => rfl)) (pa_cons (pty (n := "str") rfl T.n_str bt_str) pa_nil))) (pe_and (pe_cmpR (op_inW W_TESTS) (pe_ix (ix_listK K) (pv 2) pe_int (fun _ _ => rfl)) (C8.pe_gc rfl W_TESTS.m) rfl) (pe_one (pf c_is_among hr (by omega) rfl (pa_cons (pe_ix (ix_listK K) (pv 2) pe_int (fun _ _ => rfl)) (pa_cons pe_int (pa_cons (C8.pe_gc rfl T.g_MOST_MORE) pa_nil))))))))) pss_nil)
    (pss_cons (ps_if (pt_cmpR op_eq (pv 1) pe_str (nomark _)) (pss_one (ps_ret (pf c_is_among hr (by omega) rfl (pa_cons (pe_ix (ix_listK K) (pv 2) pe_int (fun _ _ => rfl)) (pa_cons pe_int (pa_cons (C8.pe_gc rfl T.g_MOST_MORE) pa_nil)))))) pss_nil)
    (pss_one (ps_ret (pe_ifExp (pt_cmpR (op_inK K) (pv 1) (pe_tup (pa_cons pe_str (pa_cons pe_str pa_nil))) rfl) (pf c_is_name hr (by omega) rfl (pa_cons (pe_ix (ix_listK K) (pv 2) pe_int (fun _ _ => rfl)) pa_nil)) (pf c_has_leaf_form hr (by omega) rfl (pa_cons (pv 0) pa_nil)))))))))))))), ?_⟩
  refine ⟨v, rfl, v, d, "tuple", rfl, by decide, hd, _, rfl, ?_⟩
  cases d with
  | tup ds =>
    refine iteF ?_
    obtain ⟨p, xs, rfl, ep, hx⟩ := hd.tup_inv
    refine ⟨_, rfl, .ref p, xs.length, rfl, .inr ⟨xs, sqt ep, rfl⟩, rfl, _, rfl, ?_⟩
    cases ds with
    | nil =>
      have : xs = [] := List.eq_nil_of_length_eq_zero hx.1
      subst this
      exact iteT (k H (Same.refl H))
    | cons d0 args =>
      obtain ⟨x0, e0, r0⟩ := hx.get (i := 0) (d := d0) rfl
      have hl : xs.length = args.length + 1 := hx.1
      rw [decide_eq_false (show ¬ V.int (xs.length : Int) = V.int 0 from fun z => by have := V.int.inj z; omega)]
      refine iteF ⟨_, rfl, p, xs, 0, _, rfl, rfl, sqt ep, atI_nat (j := 0) e0, x0, d0, "str", rfl, by decide, r0, _, rfl, ?_⟩
      cases e1 : isTy "str" d0 with
      | false =>
        refine iteT ?_
        have : hf (.tup (d0 :: args)) = false := by
          cases d0 <;> first | rfl | (simp [isTy] at e1)
        rw [this] at k
        exact k H (Same.refl H)
      | true =>
        obtain ⟨w, rfl⟩ := str_one e1
        obtain rfl := rep_str r0
        refine iteF ⟨_, rfl, .ref p, xs.length, rfl, .inr ⟨xs, sqt ep, rfl⟩, rfl, _, rfl, p, xs, 0, _, rfl, rfl, sqt ep, atI_nat (j := 0) e0, S w, rfl, ?_⟩
        rw [lens_at, hl]
        refine ⟨rfl, _, rfl, ?_⟩
        by_cases en : ¬ args.length + 1 = lenOf w
        · rw [decide_eq_false (show ¬ V.int ((args.length + 1 : Nat) : Int) = V.int (lenOf w : Int) from fun z => by have := V.int.inj z; omega)]
          refine iteT ?_
          have : hf (.tup (.str w :: args)) = false := by
            show (decide (args.length + 1 = lenOf w) && hfW w args) = false
            rw [decide_eq_false en, Bool.false_and]
          rw [this] at k
          exact k H (Same.refl H)
        have en := Classical.not_not.mp en
        rw [decide_eq_true (show V.int ((args.length + 1 : Nat) : Int) = V.int (lenOf w : Int) from congrArg V.int (by omega))]
        have hfe : hf (.tup (.str w :: args)) = hfW w args := by
          show (decide (args.length + 1 = lenOf w) && hfW w args) = _
          rw [decide_eq_true en, Bool.true_and]
        rw [hfe] at k
        obtain ⟨x0', rst, rfl⟩ : ∃ x r, xs = x :: r := by
          cases xs with
          | nil => simp at hl
          | cons x r => (exact ⟨x, r, rfl⟩)
        obtain rfl : x0' = .str (S w) := by simpa using e0
        have hrs : Reps H rst args := ⟨by simpa using hl, fun i x d h1 h2 => hx.2 (i + 1) x d (by simpa using h1) (by simpa using h2)⟩
        have l4 : lenOf w ≤ 4 := by
          unfold lenOf
          repeat' split
          all_goals omega
        refine iteF ⟨_, rfl, p, .str (S w), rst, rfl, sqt ep, by rw [hrs.1]; omega, fun L hL => ?_⟩
        have s0 : Same H (upd H L (.lst rst)) := (Same.refl H).new hL
        have hrs2 := hrs.same s0
        have eL : (upd H L (.lst rst)) L = some (.lst rst) := upd_same
        have hd2 := hd.same s0
        generalize (upd H L (.lst rst)) = H1 at *
        have arg : ∀ i, i < args.length → ∃ x a, rst[i]? = some x ∧ Rep H1 x a ∧ args.getD i .non = a := fun i hi => by
          obtain ⟨x, e, r⟩ := hrs2.get (List.getElem?_eq_getElem hi)
          refine ⟨x, args[i], e, r, ?_⟩
          (rw [List.getD_eq_getElem?_getD, List.getElem?_eq_getElem hi])
          rfl
        (refine ⟨_, rfl, rfl, _, rfl, ?_⟩)
        rw [dstr w "mix"]
        by_cases e1 : w = W "mix"
        · rw [decide_eq_true e1]
          have n2 : lenOf w = 2 := by rw [e1]; decide +kernel
          obtain ⟨x, a, ex, ra, ea⟩ := arg 0 (by omega)
          have : hfW w args = pairsOk a := by
            unfold hfW
            rw [if_pos e1, ea]
          rw [this] at k
          exact iteT ⟨_, rfl, L, rst, 0, x, rfl, rfl, sql eL, atI_nat (j := 0) ex, x, a, rfl, ra, fun H2 s2 => k H2 (s0.trans s2)⟩
        rw [decide_eq_false e1]
        refine iteF ⟨_, rfl, rfl, _, rfl, ?_⟩
        rw [dstr w "all"]
        by_cases e2 : w = W "all"
        · rw [decide_eq_true e2]
          have n2 : lenOf w = 2 := by rw [e2]; decide +kernel
          obtain ⟨x, a, ex, ra, ea⟩ := arg 0 (by omega)
          have : hfW w args = mny 0 6 a := by
            unfold hfW
            rw [if_neg e1, if_pos e2, ea]
          rw [this] at k
          exact iteT ⟨_, rfl, L, rst, 0, x, rfl, rfl, sql eL, atI_nat (j := 0) ex, x, a, 0, 6, rfl, ra, fun H2 s2 => k H2 (s0.trans s2)⟩
        rw [decide_eq_false e2]
        refine iteF ⟨_, rfl, rfl, _, rfl, ?_⟩
        rw [dstr w "row"]
        by_cases e3 : w = W "row"
        · rw [decide_eq_true e3]
          have n2 : lenOf w = 4 := by rw [e3]; decide +kernel
          obtain ⟨x, a, ex, ra, ea⟩ := arg 0 (by omega)
          obtain ⟨y, b, ey, rb, eb⟩ := arg 1 (by omega)
          have : hfW w args = rowOk a b := by
            unfold hfW
            rw [if_neg e1, if_neg e2, if_pos e3, ea, eb]
          rw [this] at k
          refine iteT ⟨_, rfl, L, rst, 0, x, rfl, rfl, sql eL, atI_nat (j := 0) ex, x, a, 0, 6, rfl, ra, fun H2 s2 => ⟨_, rfl, ?_⟩⟩
          have k2 := k H2 (s0.trans s2)
          cases em : amg 0 6 a with
          | false =>
            have : rowOk a b = false := by
              cases a <;> first | rfl | (show (amg 0 6 _ && _) = false; rw [em, Bool.false_and])
            rw [this] at k2
            exact iteF k2
          | true =>
            obtain ⟨i, rfl, hi⟩ := amg_inv em
            cases ra
            refine iteT ⟨_, rfl, L, rst, 1, y, rfl, rfl, sql (s2 _ _ eL), atI_nat (j := 1) ey, _, rfl, L, rst, 0, _, rfl, rfl, sql (s2 _ _ eL), atI_nat (j := 0) ex, y, b, i, 6, rfl, rb.same s2, fun H3 s3 => ?_⟩
            have k3 := k H3 ((s0.trans s2).trans s3)
            have : rowOk (.int i) b = amg i 6 b := by
              show (amg 0 6 (.int i) && _) = _
              rw [em, Bool.true_and]
            rw [this] at k3
            exact k3
        rw [decide_eq_false e3]
        refine iteF ⟨_, rfl, rfl, _, rfl, ?_⟩
        rw [dstr w "turn"]
        by_cases e4 : w = W "turn"
        · rw [decide_eq_true e4]
          have n2 : lenOf w = 3 := by rw [e4]; decide +kernel
          obtain ⟨x, a, ex, ra, ea⟩ := arg 0 (by omega)
          have : hfW w args = inW turnW a := by
            unfold hfW
            rw [if_neg e1, if_neg e2, if_neg e3, if_pos e4, ea]
          rw [this] at k
          refine iteT ⟨_, rfl, L, rst, 0, x, rfl, rfl, sql eL, atI_nat (j := 0) ex, x, a, "str", rfl, by decide, ra, _, rfl, ?_⟩
          cases es : isTy "str" a with
          | false =>
            have : inW turnW a = false := by
              cases a <;> first | rfl | (simp [isTy] at es)
            rw [this] at k
            exact iteF (k H1 s0)
          | true =>
            obtain ⟨z, rfl⟩ := str_one es
            obtain rfl := rep_str ra
            refine iteT ⟨_, rfl, L, rst, 0, _, rfl, rfl, sql eL, atI_nat (j := 0) ex, S z, rfl, rfl, ?_⟩
            rw [dmem (w := z) (l := turnS) (k := turnW) rfl rfl]
            exact k H1 s0
        rw [decide_eq_false e4]
        refine iteF ⟨_, rfl, rfl, _, rfl, ?_⟩
        rw [dstr w "keep"]
        by_cases e5 : w = W "keep"
        · rw [decide_eq_true e5]
          have n2 : lenOf w = 4 := by rw [e5]; decide +kernel
          obtain ⟨x, a, ex, ra, ea⟩ := arg 0 (by omega)
          obtain ⟨y, b, ey, rb, eb⟩ := arg 1 (by omega)
          have : hfW w args = (inW testW a && amg 0 3 b) := by
            unfold hfW
            rw [if_neg e1, if_neg e2, if_neg e3, if_neg e4, if_pos e5, ea, eb]
          rw [this] at k
          refine iteT ⟨_, rfl, L, rst, 0, x, rfl, rfl, sql eL, atI_nat (j := 0) ex, x, a, "str", rfl, by decide, ra, _, rfl, ?_⟩
          cases es : isTy "str" a with
          | false =>
            have : inW testW a = false := by
              cases a <;> first | rfl | (simp [isTy] at es)
            rw [this, Bool.false_and] at k
            exact iteF (k H1 s0)
          | true =>
            obtain ⟨z, rfl⟩ := str_one es
            obtain rfl := rep_str ra
            refine iteT ⟨_, rfl, L, rst, 0, _, rfl, rfl, sql eL, atI_nat (j := 0) ex, S z, rfl, rfl, _, rfl, ?_⟩
            rw [dmem (w := z) (l := testS) (k := testW) rfl rfl]
            cases ez : decide (z ∈ testW) with
            | false =>
              have : inW testW (.str z) = false := ez
              rw [this, Bool.false_and] at k
              exact iteF (k H1 s0)
            | true =>
              have : inW testW (.str z) = true := ez
              rw [this, Bool.true_and] at k
              exact iteT ⟨_, rfl, L, rst, 1, y, rfl, rfl, sql eL, atI_nat (j := 1) ey, y, b, 0, 3, rfl, rb, fun H2 s2 => k H2 (s0.trans s2)⟩
        rw [decide_eq_false e5]
        refine iteF ⟨_, rfl, rfl, _, rfl, ?_⟩
        rw [dstr w "grow"]
        by_cases e6 : w = W "grow"
        · rw [decide_eq_true e6]
          have n2 : lenOf w = 4 := by rw [e6]; decide +kernel
          obtain ⟨x, a, ex, ra, ea⟩ := arg 0 (by omega)
          have : hfW w args = amg 0 3 a := by
            unfold hfW
            rw [if_neg e1, if_neg e2, if_neg e3, if_neg e4, if_neg e5, if_pos e6, ea]
          rw [this] at k
          exact iteT ⟨_, rfl, L, rst, 0, x, rfl, rfl, sql eL, atI_nat (j := 0) ex, x, a, 0, 3, rfl, ra, fun H2 s2 => k H2 (s0.trans s2)⟩
        rw [decide_eq_false e6]
        refine iteF ⟨_, rfl, lsz, fun t ht => ⟨t, _, rfl, .inr (sqt upd_same), rfl, rfl, _, rfl, ?_⟩⟩
        have s2 := s0.new (o := .tup [.str "let", .str "times"]) ht
        have e7 : inV (.str (S w)) [V.str "let", V.str "times"] = decide (w ∈ [W "let", W "times"]) := inV_W w ["let", "times"]
        rw [if_neg (by decide), e7]
        by_cases e8 : w ∈ [W "let", W "times"]
        · rw [decide_eq_true e8]
          have e9 : w = W "let" ∨ w = W "times" := by simpa using e8
          have n2 : 3 ≤ lenOf w := by rcases e9 with e | e <;> (rw [e]; decide +kernel)
          obtain ⟨x, a, ex, ra, ea⟩ := arg 0 (by omega)
          have : hfW w args = isName a := by
            unfold hfW
            rw [if_neg e1, if_neg e2, if_neg e3, if_neg e4, if_neg e5, if_neg e6, if_pos e9, ea]
          rw [this] at k
          exact iteT ⟨_, rfl, L, rst, 0, x, rfl, rfl, sql (up_ne eL ht), atI_nat (j := 0) ex, x, a, rfl, ra.same ((Same.refl _).new ht), fun H3 s3 => k H3 (s2.trans s3)⟩
        · rw [decide_eq_false e8]
          have e9 : ¬ (w = W "let" ∨ w = W "times") := by simpa using e8
          have : hfW w args = leafOk w args := by
            unfold hfW
            rw [if_neg e1, if_neg e2, if_neg e3, if_neg e4, if_neg e5, if_neg e6, if_neg e9]
          rw [this] at k
          refine iteF ⟨_, rfl, _, w, args, rfl, hd2.same ((Same.refl _).new ht), fun hw => ?_, fun hw => ?_, fun H3 s3 => k H3 (s2.trans s3)⟩
          · have : 2 ≤ lenOf w := by
              have h0 : lenOf w ≠ 0 := by omega
              unfold lenOf at h0 ⊢
              rw [if_neg hw] at h0 ⊢
              split at h0 <;> first | (rw [if_pos (by assumption)]; omega) | skip
              split at h0 <;> first | (rw [if_neg (by assumption), if_pos (by assumption)]; omega) | skip
              split at h0 <;> first | (rw [if_neg (by assumption), if_neg (by assumption), if_pos (by assumption)]; omega) | omega
            omega
          · have : lenOf w = 3 := by rw [hw]; decide +kernel
            omega
  | _ =>
    exact iteT (k H (Same.refl H))
end
end K6
set_option maxHeartbeats 4000001
namespace K6
open L2 PySem PySem.Spec PyProof.Rows
def NamesT (H : Hp) (v : V) (ns : Nms) : Prop := ∃ a, v = .ref a ∧ H a = some (.tup (ns.map fun n => V.str (S n)))
theorem NamesT.gr {H H' : Hp} {v : V} {ns : Nms} (r : NamesT H v ns) (g : Gr H H') : NamesT H' v ns := by
  obtain ⟨a, e, h⟩ := r
  exact ⟨a, e, g.tup _ _ h⟩
def SItem (H : Hp) (v : V) (b : GB) : Prop := ∃ p pv nv, v = .ref p ∧ H p = some (.tup [pv, nv, .bl b.2.2]) ∧ Rep H pv b.1 ∧ NamesT H nv b.2.1
theorem SItem.gr {H H' : Hp} {v : V} {b : GB} (r : SItem H v b) (g : Gr H H') : SItem H' v b := by
  obtain ⟨p, pv, nv, e, h, hp, hn⟩ := r
  exact ⟨p, pv, nv, e, g.tup _ _ h, hp.gr g, hn.gr g⟩
def GItem (H : Hp) (v : V) (it : List Nat × GB) : Prop := ∃ p wv pv nv, v = .ref p ∧ H p = some (.tup [wv, pv, nv, .bl it.2.2.2]) ∧ WayR H wv it.1 ∧ Rep H pv it.2.1 ∧ NamesT H nv it.2.2.1
theorem GItem.gr {H H' : Hp} {v : V} {b : List Nat × GB} (r : GItem H v b) (g : Gr H H') : GItem H' v b := by
  obtain ⟨p, wv, pv, nv, e, h, hw, hp, hn⟩ := r
  exact ⟨p, wv, pv, nv, e, g.tup _ _ h, hw.gr g, hp.gr g, hn.gr g⟩
theorem hf_split {d : D} (h : hf d = true) : ∃ w args, d = .tup (.str w :: args) ∧ args.length + 1 = lenOf w ∧ hfW w args = true := by
  match d, h with
  | .tup (.str w :: args), h =>
    have h1 : (decide (args.length + 1 = lenOf w) && hfW w args) = true := h
    rw [Bool.and_eq_true, decide_eq_true_eq] at h1
    exact ⟨w, args, rfl, h1⟩
theorem hf_mix {args : List D} (hl : args.length + 1 = lenOf (W "mix")) (h : hfW (W "mix") args = true) : ∃ ps : List (Int × D), args = [.tup (ps.map fun p => .tup [.int p.1, p.2])] ∧ 1 ≤ ps.length ∧ ps.length ≤ 6 ∧ ∀ p ∈ ps, 1 ≤ p.1 ∧ p.1 ≤ 9 := by
  obtain ⟨a, rfl⟩ := len_one (hl.trans (by decide +kernel))
  have hh : pairsOk a = true := h
  have h2 : mny 1 6 a = true ∧ (tupL a).all pairOk = true := by
    cases a with
    | tup ds =>
      rw [pairsOk_tup, Bool.and_eq_true] at hh
      exact hh
    | _ => cases hh
  obtain ⟨ds, rfl, l1, l2⟩ := mny_inv h2.1
  obtain ⟨ps, rfl, hp⟩ := pairs_inv h2.2
  rw [List.length_map] at l1 l2
  exact ⟨ps, rfl, by omega, by omega, hp⟩
theorem hf_all {args : List D} (hl : args.length + 1 = lenOf (W "all")) (h : hfW (W "all") args = true) : ∃ ds : List D, args = [.tup ds] ∧ ds.length ≤ 6 := by
  obtain ⟨a, rfl⟩ := len_one (hl.trans (by decide +kernel))
  obtain ⟨ds, rfl, l1, l2⟩ := mny_inv (show mny 0 6 a = true from h)
  exact ⟨ds, rfl, by omega⟩
theorem tup2_inv {H : Hp} {v : V} {a b : D} (r : Rep H v (.tup [a, b])) : ∃ p x y, v = .ref p ∧ H p = some (.tup [x, y]) ∧ Rep H x a ∧ Rep H y b := by
  obtain ⟨p, xs, rfl, ep, hx⟩ := r.tup_inv
  match xs, hx with
  | [x, y], hx => exact ⟨p, x, y, rfl, ep, hx.2 0 x a rfl rfl, hx.2 1 y b rfl rfl⟩
  | [], hx => exact absurd hx.1 (by simp)
  | [_], hx => exact absurd hx.1 (by simp)
  | _ :: _ :: _ :: _, hx => exact absurd hx.1 (by simp)
theorem four_of {α : Type} {xs : List α} {β : Type} {a b c d : β} (h : xs.length = [a, b, c, d].length) : ∃ x0 x1 x2 x3, xs = [x0, x1, x2, x3] := by
  match xs, h with
  | [x0, x1, x2, x3], _ => exact ⟨x0, x1, x2, x3, rfl⟩
def sp_own_parts : Sp := fun vs H Q _ => ∃ v d, vs = [v] ∧ Rep H v d ∧ hf d = true ∧ ∀ H' a xs, Same H H' → H a = none → H' a = some (.lst xs) → Reps H' xs (kidsG d) → Q (.ref a) H'
section
variable {P : Program}
variable {w : World} {K : PySem.W.Frag} {mg : Str → Option Value} {base : Heap}
abbrev s_own_parts : Stmt := top 78
abbrev N_own_parts : List Str := ["generator", "word", "weight", "part"]
theorem sc_own_parts : FnScope N_own_parts ["generator"] (defScope s_own_parts) := ⟨rfl, rfl, rfl, by decide +kernel, rfl, by decide +kernel, by decide +kernel⟩
theorem cl_own_parts (F : Df K mg "own_parts" s_own_parts ["generator"]) (T : Tx mg) : Cl P w K mg base 1 "own_parts" sp_own_parts := by
  refine F.cl sc_own_parts (fun vs H Q E h => by obtain ⟨_, _, rfl, _⟩ := h; rfl) (fun f cdv A outer s H vs Q E hr h => ?_)
  have nd := sc_own_parts.nd
  obtain ⟨v, d, rfl, hd, hh, k⟩ := h
  obtain ⟨w, args, rfl, hl, hw⟩ := hf_split hh
  refine ⟨_, (pss_cons (pset 1 nd (pe_ix (ix_tupK K) (pv 0) pe_int (fun _ _ => rfl)))
    (pss_cons (ps_if (pt_cmpR op_eq (pv 1) pe_str (nomark _)) (pss_one (ps_ret (pe_lc (own := [("weight", 2), ("part", 3)]) rfl nd (pi_tupK K (pe_ix (ix_tupK K) (pv 0) pe_int (fun _ _ => rfl))) (blkOk_by (own := [("weight", 2), ("part", 3)]) (N := N_own_parts) (sc := defScope s_own_parts) (by decide +kernel)) (fun _ _ _ _ _ => (pg_tupK (n := 2) K rfl (pgs_cons (pgn 2 nd) (pgs_cons (pgn 3 nd) pgs_nil)))) (fun _ _ _ _ _ => pts_nil) (fun _ _ _ _ _ => (pv 3))))) pss_nil)
    (pss_cons (ps_if (pt_cmpR op_eq (pv 1) pe_str (nomark _)) (pss_one (ps_ret (pe_callTy (call_lstK K) rfl T.n_list bt_list (pa_cons (pe_ix (ix_tupK K) (pv 0) pe_int (fun _ _ => rfl)) pa_nil)))) pss_nil)
    (pss_cons (ps_if (pt_cmpR (op_inK K) (pv 1) (pe_tup (pa_cons pe_str (pa_cons pe_str pa_nil))) rfl) (pss_one (ps_ret (pe_callTy (call_lstK K) rfl T.n_list bt_list (pa_cons (pe_slice (sl_tupK K) (pv 0) (po_some pe_int) po_none) pa_nil)))) pss_nil)
    (pss_one (ps_ret (pe_ifExp (pt_cmpR (op_inK K) (pv 1) (pe_tup (pa_cons pe_str (pa_cons pe_str (pa_cons pe_str (pa_cons pe_str pa_nil))))) rfl) (pe_lst (pa_cons (pe_ix (ix_tupK K) (pv 0) (pe_un un_neg pe_int) (fun _ _ => rfl)) pa_nil)) (pe_lst pa_nil)))))))), ?_⟩
  obtain ⟨p, xs, rfl, ep, hx⟩ := hd.tup_inv
  obtain ⟨x0, e0, r0⟩ := hx.get (i := 0) (d := .str w) rfl
  obtain rfl := rep_str r0
  refine ⟨_, rfl, p, xs, 0, _, rfl, rfl, sqt ep, atI_nat (j := 0) e0, ?_⟩
  (refine ⟨_, rfl, rfl, _, rfl, ?_⟩)
  rw [dstr w "mix"]
  by_cases e1 : w = W "mix"
  · rw [decide_eq_true e1]
    subst e1
    obtain ⟨ps, rfl, l1, l2, _⟩ := hf_mix hl hw
    obtain ⟨x1, ex1, r1⟩ := hx.get (i := 1) (d := .tup _) rfl
    obtain ⟨b, ys, rfl, eb, hy⟩ := r1.tup_inv
    have hk : kidsG (.tup (.str (W "mix") :: [.tup (ps.map fun p => .tup [.int p.1, p.2])])) = ps.map (·.2) := by
      show (ps.map fun p => D.tup [.int p.1, p.2]).map sndD = _
      rw [List.map_map]
      rfl
    rw [hk] at k
    refine iteT ⟨_, rfl, p, xs, 1, _, rfl, rfl, sqt ep, atI_nat (j := 1) ex1, b, rfl, ⟨ys, sqt eb⟩, fun C hC => lc_it (walk_tup (xs := ys)) (CPv Rep (ps.map (·.2)) H C) (cpv_start hC) (fun i H2 _ pv2 => sqt (pv2.1 _ _ eb)) ?_ ?_⟩
    · rintro i x H2 H3 hi pv2 ⟨rfl, hxi⟩
      obtain ⟨di, hdi, ri⟩ := hy.getV hxi
      rw [List.getElem?_map] at hdi
      cases ep2 : ps[i]? with
      | none => rw [ep2] at hdi; cases hdi
      | some q =>
        rw [ep2] at hdi
        obtain rfl : D.tup [.int q.1, q.2] = di := Option.some.inj hdi
        obtain ⟨c, y0, y1, rfl, ec, ry0, ry1⟩ := tup2_inv ri
        refine ⟨c, _, rfl, sqt (pv2.1 _ _ ec), rfl, y0, [y1], rfl, y1, [], rfl, rfl, rfl, _, rfl, ?_⟩
        exact cpv_fin (fun _ _ _ _ g r => r.gr g) hC (by rw [List.length_map]; omega) (by rw [List.getElem?_map, ep2]; rfl) pv2 (Same.refl _) (ry1.same pv2.1)
    · intro H2 pv2
      obtain ⟨s2, zs, ez, az⟩ := cpv_done (by rw [List.length_map, hy.1, List.length_map]; exact Nat.le_refl _) pv2
      exact k H2 C zs s2 hC ez az
  rw [decide_eq_false e1]
  refine iteF ⟨_, rfl, rfl, _, rfl, ?_⟩
  rw [dstr w "all"]
  by_cases e2 : w = W "all"
  · rw [decide_eq_true e2]
    subst e2
    obtain ⟨ds, rfl, l2⟩ := hf_all hl hw
    obtain ⟨x1, ex1, r1⟩ := hx.get (i := 1) (d := .tup _) rfl
    obtain ⟨b, ys, rfl, eb, hy⟩ := r1.tup_inv
    exact iteT ⟨_, rfl, p, xs, 1, _, rfl, rfl, sqt ep, atI_nat (j := 1) ex1, b, ys, rfl, .inr (sqt eb), fun L hL => k _ L ys ((Same.refl _).new hL) hL upd_same (hy.same ((Same.refl _).new hL))⟩
  rw [decide_eq_false e2]
  refine iteF ⟨_, rfl, lsz, fun t ht => ⟨t, _, rfl, .inr (sqt upd_same), rfl, rfl, _, rfl, ?_⟩⟩
  have s2 := (Same.refl H).new (o := .tup [.str "let", .str "grow"]) ht
  have e7 : inV (.str (S w)) [V.str "let", V.str "grow"] = decide (w ∈ [W "let", W "grow"]) := inV_W w ["let", "grow"]
  rw [if_neg (by decide), e7]
  by_cases e3 : w ∈ [W "let", W "grow"]
  · rw [decide_eq_true e3]
    have e9 : w = W "let" ∨ w = W "grow" := by simpa using e3
    have n2 : lenOf w = 4 := by rcases e9 with e | e <;> (rw [e]; decide +kernel)
    have hk : kidsG (.tup (.str w :: args)) = args.drop 1 := by
      show (if w = W "mix" then _ else _) = _
      rw [if_neg e1, if_neg e2, if_pos e9]
    rw [hk] at k
    obtain ⟨a, b, c, rfl⟩ := len_three (hl.trans n2)
    obtain ⟨x0, x1, x2, x3, rfl⟩ := four_of hx.1
    have ep2 := s2 _ _ ep
    refine iteT ⟨_, rfl, 2, rfl, p, _, rfl, sqt ep2, (show ¬ (HT.sIx 4 0 (some 2) = 0 ∧ HT.sIx 4 4 none = 4) by decide), fun t2 ht2 => ⟨t2, _, rfl, .inr (sqt upd_same), fun L hL => ?_⟩⟩
    have s3 := (s2.new (o := .tup [x2, x3]) ht2).new (o := .lst [x2, x3]) hL
    exact k _ L [x2, x3] s3 ((s2.new (o := .tup [x2, x3]) ht2).free hL) upd_same (Reps.cons ((hx.2 2 x2 b rfl rfl).same s3) (Reps.cons ((hx.2 3 x3 c rfl rfl).same s3) Reps.nil))
  · rw [decide_eq_false e3]
    have e9 : ¬ (w = W "let" ∨ w = W "grow") := by simpa using e3
    refine iteF ⟨_, rfl, lsz, fun t2 ht2 => ⟨t2, _, rfl, .inr (sqt upd_same), rfl, rfl, _, rfl, ?_⟩⟩
    have s3 := s2.new (o := .tup [.str "row", .str "turn", .str "keep", .str "times"]) ht2
    have e10 : inV (.str (S w)) [V.str "row", V.str "turn", V.str "keep", V.str "times"] = decide (w ∈ [W "row", W "turn", W "keep", W "times"]) := inV_W w ["row", "turn", "keep", "times"]
    rw [if_neg (by decide), e10]
    by_cases e4 : w ∈ [W "row", W "turn", W "keep", W "times"]
    · rw [decide_eq_true e4]
      have e11 : w = W "row" ∨ w = W "turn" ∨ w = W "keep" ∨ w = W "times" := by simpa using e4
      have n2 : 3 ≤ lenOf w := by rcases e11 with e | e | e | e <;> (rw [e]; decide +kernel)
      have hk : kidsG (.tup (.str w :: args)) = [args.getLastD .non] := by
        show (if w = W "mix" then _ else _) = _
        rw [if_neg e1, if_neg e2, if_neg e9, if_pos e11]
      rw [hk] at k
      obtain ⟨as, al, rfl⟩ := snoc_of (show args ≠ [] from fun z => by subst z; simp at hl; omega)
      obtain ⟨ys, y, rfl⟩ := snoc_of (show xs ≠ [] from fun z => by subst z; have := hx.1; simp at this)
      have hy : Rep H y al := hx.2 ys.length y al (by simp) (by
        have := hx.1
        simp at this
        rw [show D.str w :: (as ++ [al]) = (D.str w :: as) ++ [al] from rfl, List.getElem?_append_right (by simp [this])]
        simp [this])
      refine iteT ⟨_, rfl, 1, rfl, p, _, (-1 : Int), y, rfl, rfl, sqt (s3 _ _ ep), atI_last _ _, lsz, fun L hL => ?_⟩
      have s4 := s3.new (o := .lst [y]) hL
      refine k _ L [y] s4 (s3.free hL) upd_same ?_
      rw [show (as ++ [al]).getLastD .non = al by simp]
      exact Reps.cons (hy.same s4) Reps.nil
    · rw [decide_eq_false e4]
      have e11 : ¬ (w = W "row" ∨ w = W "turn" ∨ w = W "keep" ∨ w = W "times") := by simpa using e4
      have hk : kidsG (.tup (.str w :: args)) = [] := by
        show (if w = W "mix" then _ else _) = _
        rw [if_neg e1, if_neg e2, if_neg e9, if_neg e11]
      rw [hk] at k
      refine iteF ⟨lsz, fun L hL => ?_⟩
      exact k _ L [] (s3.new hL) (s3.free hL) upd_same Reps.nil
def sp_stands : Sp := fun vs H Q _ => ∃ v d nv ns gr, vs = [v, nv, .bl gr] ∧ Rep H v d ∧ hf d = true ∧ NamesT H nv ns ∧ ∀ H', Same H H' → Q (.bl (stG (d, ns, gr))) H'
theorem hf_name {w : List Nat} {args : List D} (hl : args.length + 1 = lenOf w) (h : hfW w args = true) (e : w = W "var" ∨ w = W "upto" ∨ w = W "times" ∨ w = W "let") : ∃ x r, args = .str x :: r ∧ isNm x = true := by
  have h2 : isName (args.getD 0 .non) = true := by
    rcases e with e | e | e | e <;> subst e <;> exact h
  have n2 : 2 ≤ lenOf w := by rcases e with e | e | e | e <;> (rw [e]; decide +kernel)
  match args, hl with
  | a :: r, _ =>
    obtain ⟨x, e1, h3⟩ := isName_inv (show isName a = true from h2)
    exact ⟨x, r, by rw [e1], h3⟩
  | [], hl =>
    simp at hl
    omega
abbrev s_stands : Stmt := top 80
abbrev N_stands : List Str := ["generator", "names", "grows"]
theorem sc_stands : FnScope N_stands ["generator", "names", "grows"] (defScope s_stands) := ⟨rfl, rfl, rfl, by decide +kernel, rfl, by decide +kernel, by decide +kernel⟩
theorem cl_stands (F : Df K mg "stands" s_stands ["generator", "names", "grows"]) (T : Tx mg) : Cl P w K mg base 1 "stands" sp_stands := by
  refine F.cl sc_stands (fun vs H Q E h => by obtain ⟨_, _, _, _, _, rfl, _⟩ := h; rfl) (fun f cdv A outer s H vs Q E hr h => ?_)
  have nd := sc_stands.nd
  obtain ⟨v, d, nv, ns, gr, rfl, hd, hh, ⟨na, rfl, en⟩, k⟩ := h
  obtain ⟨w, args, rfl, hl, hw⟩ := hf_split hh
  refine ⟨_, (pss_cons (ps_if (pt_cmpR (op_inK K) (pe_ix (ix_tupK K) (pv 0) pe_int (fun _ _ => rfl)) (pe_tup (pa_cons pe_str (pa_cons pe_str (pa_cons pe_str pa_nil)))) rfl) (pss_one (ps_ret (pe_cmpR (op_inK K) (pe_ix (ix_tupK K) (pv 0) pe_int (fun _ _ => rfl)) (pv 1) rfl))) pss_nil)
    (pss_one (ps_ret (pe_or (pv 2) (pe_one (pe_cmpR op_ne (pe_ix (ix_tupK K) (pv 0) pe_int (fun _ _ => rfl)) pe_str (nomark _))))))), ?_⟩
  obtain ⟨p, xs, rfl, ep, hx⟩ := hd.tup_inv
  obtain ⟨x0, e0, r0⟩ := hx.get (i := 0) (d := .str w) rfl
  obtain rfl := rep_str r0
  refine ⟨_, rfl, p, xs, 0, _, rfl, rfl, sqt ep, atI_nat (j := 0) e0, ?_⟩
  refine ⟨lsz, fun t ht => ⟨t, _, rfl, .inr (sqt upd_same), rfl, rfl, _, rfl, ?_⟩⟩
  have s2 := (Same.refl H).new (o := .tup [.str "var", .str "upto", .str "times"]) ht
  have e7 : inV (.str (S w)) [V.str "var", V.str "upto", V.str "times"] = decide (w ∈ [W "var", W "upto", W "times"]) := inV_W w ["var", "upto", "times"]
  rw [if_neg (by decide), e7]
  by_cases e3 : w ∈ [W "var", W "upto", W "times"]
  · rw [decide_eq_true e3]
    have e9 : w = W "var" ∨ w = W "upto" ∨ w = W "times" := by simpa using e3
    obtain ⟨x, r, rfl, hn⟩ := hf_name hl hw (by rcases e9 with e | e | e <;> simp [e])
    obtain ⟨x1, e1, r1⟩ := hx.get (i := 1) (d := .str x) rfl
    obtain rfl := rep_str r1
    refine iteT ⟨_, rfl, p, xs, 1, _, rfl, rfl, sqt (s2 _ _ ep), atI_nat (j := 1) e1, _, rfl, na, _, rfl, .inr (sqt (s2 _ _ en)), rfl, by simp [List.all_map]; intros; rfl, ?_⟩
    rw [if_neg (by decide), inV_str]
    have hk : stG (.tup (.str w :: .str x :: r), ns, gr) = decide (x ∈ ns) := by
      show (if _ then _ else _) = _
      rw [if_pos e9]
      rfl
    rw [hk] at k
    exact k _ s2
  · rw [decide_eq_false e3]
    have e9 : ¬ (w = W "var" ∨ w = W "upto" ∨ w = W "times") := by simpa using e3
    have hk : stG (.tup (.str w :: args), ns, gr) = (gr || decide (w ≠ W "again")) := by
      show (if _ then _ else _) = _
      rw [if_neg e9]
    rw [hk] at k
    refine iteF ⟨_, rfl, ?_⟩
    cases gr with
    | true => exact ⟨_, rfl, iteT (k _ s2)⟩
    | false =>
      refine ⟨_, rfl, iteF ⟨_, rfl, p, xs, 0, _, rfl, rfl, sqt (s2 _ _ ep), atI_nat (j := 0) e0, rfl, ?_⟩⟩
      rw [dstr w "again"]
      have k2 := k _ s2
      rw [Bool.false_or] at k2
      have : decide (w ≠ W "again") = !decide (w = W "again") := by
        by_cases h : w = W "again"
        · rw [decide_eq_true h, decide_eq_false fun z => z h]
          rfl
        · rw [decide_eq_false h, decide_eq_true h]
          rfl
      rw [this] at k2
      exact k2
end
end K6
set_option maxHeartbeats 4000001
namespace K6
open L2 PySem PySem.Spec PyProof.Rows
def sp_scoped : Sp := fun vs H Q _ => ∃ v d nv ns gr, vs = [v, nv, .bl gr] ∧ Rep H v d ∧ hf d = true ∧ ns.length ≤ 10000 ∧ NamesT H nv ns ∧ ∀ H' a xs, Same H H' → H a = none → H' a = some (.lst xs) → All2 (SItem H') xs (scG (d, ns, gr)) → Q (.ref a) H'
theorem all2_set {α β : Type} {R : α → β → Prop} {xs : List α} {ys : List β} {i : Nat} {x : α} {y : β} (a : All2 R xs ys) (r : R x y) : All2 R (xs.set i x) (ys.set i y) := by
  refine ⟨by simp [a.1], fun j u v h1 h2 => ?_⟩
  rw [List.getElem?_set] at h1 h2
  by_cases h : i = j
  · rw [if_pos h] at h1 h2
    split at h1
    · split at h2
      · cases h1
        cases h2
        exact r
      · cases h2
    · cases h1
  · rw [if_neg h] at h1 h2
    exact a.2 j u v h1 h2
theorem kidsG_lg {w : List Nat} {args : List D} (e : w = W "let" ∨ w = W "grow") : kidsG (.tup (.str w :: args)) = args.drop 1 := by
  show (if w = W "mix" then _ else if w = W "all" then _ else if w = W "let" ∨ w = W "grow" then _ else _) = _
  rw [if_neg (by rcases e with e | e <;> (rw [e]; decide +kernel)), if_neg (by rcases e with e | e <;> (rw [e]; decide +kernel)), if_pos e]
theorem kidsG_len {d : D} (h : hf d = true) : (kidsG d).length ≤ 6 := by
  obtain ⟨w, args, rfl, hl, hw⟩ := hf_split h
  show (if _ then _ else if _ then _ else if _ then _ else if _ then _ else _ : List D).length ≤ 6
  split
  · rename_i e
    subst e
    obtain ⟨ps, rfl, _, l, _⟩ := hf_mix hl hw
    show (((ps.map fun p => D.tup [.int p.1, p.2])).map sndD).length ≤ 6
    rw [List.length_map, List.length_map]
    exact l
  split
  · rename_i e
    subst e
    obtain ⟨ds, rfl, l⟩ := hf_all hl hw
    exact l
  split
  · rename_i e
    have n2 : lenOf w = 4 := by rcases e with e | e <;> (rw [e]; decide +kernel)
    rw [List.length_drop]
    omega
  split
  · simp
  · simp
section
variable {P : Program}
variable {w : World} {K : PySem.W.Frag} {mg : Str → Option Value} {base : Heap}
abbrev s_scoped_parts : Stmt := top 79
abbrev N_scoped_parts : List Str := ["generator", "names", "grows", "some", "part"]
theorem sc_scoped_parts : FnScope N_scoped_parts ["generator", "names", "grows"] (defScope s_scoped_parts) := ⟨rfl, rfl, rfl, by decide +kernel, rfl, by decide +kernel, by decide +kernel⟩
theorem cl_scoped_parts (F : Df K mg "scoped_parts" s_scoped_parts ["generator", "names", "grows"]) (T : Tx mg) (c_own_parts : Cl P w K mg base 1 "own_parts" sp_own_parts) : Cl P w K mg base 2 "scoped_parts" sp_scoped := by
  refine F.cl sc_scoped_parts (fun vs H Q E h => by obtain ⟨_, _, _, _, _, rfl, _⟩ := h; rfl) (fun f cdv A outer s H vs Q E hr h => ?_)
  have nd := sc_scoped_parts.nd
  obtain ⟨v, d, nv, ns, gr, rfl, hd, hh, hz, hn, k⟩ := h
  obtain ⟨w, args, rfl, hl, hw⟩ := hf_split hh
  refine ⟨_, (pss_cons (ps_setLc (i := 3) (own := [("part", 4)]) rfl nd rfl rfl (sw_true rfl rfl rfl (by decide +kernel)) (pi_listK K (pf c_own_parts hr (by omega) rfl (pa_cons (pv 0) pa_nil))) (blkOk_by (own := [("part", 4)]) (N := N_scoped_parts) (sc := defScope s_scoped_parts) (by decide +kernel)) (fun _ _ _ _ _ => (pgn 4 nd)) (fun _ _ _ _ _ => pts_nil) (fun _ _ _ _ _ => (pe_tup (pa_cons (pv 4) (pa_cons (pv 1) (pa_cons (pv 2) pa_nil))))))
    (pss_cons (ps_if (pt_cmpR op_eq (pe_ix (ix_tupK K) (pv 0) pe_int (fun _ _ => rfl)) pe_str (nomark _)) (pss_one (ps_asg (pe_tup (pa_cons (pe_ix (ix_tupK K) (pv 0) pe_int (fun _ _ => rfl)) (pa_cons (pe_op op_catW (pv 1) (pe_tup (pa_cons (pe_ix (ix_tupK K) (pv 0) pe_int (fun _ _ => rfl)) pa_nil))) (pa_cons (pv 2) pa_nil)))) (pg_sub (pv 3) pe_int set_list))) pss_nil)
    (pss_cons (ps_if (pt_cmpR op_eq (pe_ix (ix_tupK K) (pv 0) pe_int (fun _ _ => rfl)) pe_str (nomark _)) (pss_one (ps_asg (pe_tup (pa_cons (pe_ix (ix_tupK K) (pv 0) pe_int (fun _ _ => rfl)) (pa_cons (pv 1) (pa_cons pe_bl pa_nil)))) (pg_sub (pv 3) pe_int set_list))) pss_nil)
    (pss_one (ps_ret (pv 3)))))), ?_⟩
  obtain ⟨na, rfl, en⟩ := id hn
  obtain ⟨p, xs, rfl, ep, hx⟩ := id hd.tup_inv
  obtain ⟨x0, e0, r0⟩ := hx.get (i := 0) (d := .str w) rfl
  obtain rfl := rep_str r0
  refine ⟨_, rfl, _, _, rfl, hd, hh, fun H1 a ys s1 ha ea hy => ⟨a, rfl, ⟨ys, sql ea⟩, fun C hC => lc_it (walk_list (xs := ys)) (CPv SItem ((kidsG (.tup (.str w :: args))).map fun d => (d, ns, gr)) H1 C) (cpv_start hC) (fun i H2 _ pv2 => sql (pv2.1 _ _ ea)) ?_ ?_⟩⟩
  · rintro i x H2 H3 hi pv2 ⟨rfl, hxi⟩
    obtain ⟨di, hdi, ri⟩ := All2.getV hy hxi
    refine ⟨rfl, x, rfl, _, rfl, _, rfl, lsz, fun q hq => ?_⟩
    have s3 := pv2.1
    have s4 : Same H3 (upd H3 q (.tup [x, .ref na, .bl gr])) := (Same.refl _).new hq
    refine cpv_fin (fun _ _ _ _ g r => r.gr g) hC (by rw [List.length_map]; have := kidsG_len hh; omega) (by rw [List.getElem?_map, hdi]; rfl) pv2 s4 ⟨q, x, .ref na, rfl, upd_same, (ri.same s3).same s4, na, rfl, s4 _ _ (s3 _ _ (s1 _ _ en))⟩
  · intro H2 pv2
    obtain ⟨s2, zs, ez, az⟩ := cpv_done (by rw [List.length_map, hy.1]; exact Nat.le_refl _) pv2
    have s02 := s1.trans s2
    have nC := s1.free hC
    refine ⟨_, rfl, p, xs, 0, _, rfl, rfl, sqt (s02 _ _ ep), atI_nat (j := 0) e0, rfl, _, rfl, ?_⟩
    rw [dstr w "let"]
    have hgrow : ∀ H3, Same H2 H3 → w ≠ W "let" → w ≠ W "grow" → Q (.ref C) H3 := fun H3 s3 h1 h2 => by
      refine k H3 C zs (s02.trans s3) nC (s3 _ _ ez) ?_
      have e : scG (.tup (.str w :: args), ns, gr) = (kidsG (.tup (.str w :: args))).map fun d => (d, ns, gr) := by
        show (if _ then _ else if _ then _ else _) = _
        rw [if_neg h1, if_neg h2]
      rw [e]
      exact az.mono fun x b r => r.gr (.of s3)
    by_cases e1 : w = W "let"
    · rw [decide_eq_true e1]
      obtain ⟨nm, r, rfl, hnm⟩ := hf_name hl hw (by simp [e1])
      have n2 : lenOf w = 4 := by rw [e1]; decide +kernel
      obtain ⟨a0, b, c, ea0⟩ := len_three (hl.trans n2)
      obtain ⟨rfl, rfl⟩ := List.cons.inj ea0
      obtain ⟨x0, x1, x2, x3, rfl⟩ := four_of hx.1
      obtain rfl := rep_str (hx.2 1 x1 _ rfl rfl)
      have ep2 := s02 _ _ ep
      have hk : kidsG (.tup (.str w :: [.str nm, b, c])) = [b, c] := by
        exact kidsG_lg (.inl e1)
      rw [hk] at az
      refine iteT ⟨_, rfl, p, _, 3, _, rfl, rfl, sqt ep2, rfl, _, rfl, _, rfl, p, _, 1, _, rfl, rfl, sqt ep2, rfl, lsz, fun t ht => ⟨na, t, _, _, rfl, rfl, up_ne (s02 _ _ en) ht, upd_same, ?_, fun r H4 s4 er => ⟨_, rfl, lsz, fun q hq => ⟨_, rfl, C, zs, 1, 1, rfl, rfl, ?_, ?_, ?_⟩⟩⟩⟩
      · rw [List.length_map]
        exact sizes' (by show ns.length + 1 ≤ 1000000; omega)
      · exact up_ne (s4 _ _ (up_ne ez ht)) hq
      · rw [az.1]
        rfl
      · have s5 : Same H2 (upd H4 q (.tup [x3, .ref r, .bl gr])) := (((Same.refl H2).new ht).trans s4).new hq
        have eC5 := s5 _ _ ez
        have g6 : Gr (upd H4 q (.tup [x3, .ref r, .bl gr])) (upd (upd H4 q (.tup [x3, .ref r, .bl gr])) C (.lst (zs.set 1 (.ref q)))) := gr_put eC5
        have s6 := (s02.trans s5).put (o := .lst (zs.set 1 (.ref q))) nC
        have i5 : SItem (upd H4 q (.tup [x3, .ref r, .bl gr])) (.ref q) (c, ns ++ [nm], gr) := by
          refine ⟨q, x3, .ref r, rfl, upd_same, ((hx.2 3 x3 c rfl rfl).same s02).same s5, r, rfl, ?_⟩
          rw [up_ne er hq, List.map_append]
          rfl
        have eC6 : (upd (upd H4 q (.tup [x3, .ref r, .bl gr])) C (.lst (zs.set 1 (.ref q)))) C = some (.lst (zs.set 1 (.ref q))) := upd_same
        generalize (upd (upd H4 q (.tup [x3, .ref r, .bl gr])) C (.lst (zs.set 1 (.ref q)))) = H6 at *
        refine ⟨_, rfl, p, _, 0, _, rfl, rfl, sqt (s6 _ _ ep), atI_nat (j := 0) e0, rfl, _, rfl, ?_⟩
        rw [dstr w "grow", decide_eq_false (show ¬ w = W "grow" by rw [e1]; decide +kernel)]
        refine iteF ⟨_, rfl, k H6 C _ s6 nC eC6 ?_⟩
        have e : scG (.tup (.str w :: [.str nm, b, c]), ns, gr) = ([b, c].map fun d => (d, ns, gr)).set 1 (c, ns ++ [nm], gr) := by
          show (if w = W "let" then _ else _) = _
          rw [if_pos e1]
          rfl
        rw [e]
        exact all2_set (az.mono fun x b r => r.gr ((Gr.of s5).trans g6)) (i5.gr g6)
    · rw [decide_eq_false e1]
      refine iteF ⟨_, rfl, p, _, 0, _, rfl, rfl, sqt (s02 _ _ ep), atI_nat (j := 0) e0, rfl, _, rfl, ?_⟩
      rw [dstr w "grow"]
      by_cases e2 : w = W "grow"
      · rw [decide_eq_true e2]
        have n2 : lenOf w = 4 := by rw [e2]; decide +kernel
        obtain ⟨a0, b, c, rfl⟩ := len_three (hl.trans n2)
        obtain ⟨x0, x1, x2, x3, rfl⟩ := four_of hx.1
        have ep2 := s02 _ _ ep
        have hk : kidsG (.tup (.str w :: [a0, b, c])) = [b, c] := by
          exact kidsG_lg (.inr e2)
        rw [hk] at az
        refine iteT ⟨_, rfl, p, _, 3, _, rfl, rfl, sqt ep2, rfl, _, rfl, lsz, fun q hq => ⟨_, rfl, C, zs, 1, 1, rfl, rfl, up_ne ez hq, ?_, ?_⟩⟩
        · rw [az.1]
          rfl
        · have s5 : Same H2 (upd H2 q (.tup [x3, .ref na, .bl true])) := (Same.refl H2).new hq
          have g6 : Gr (upd H2 q (.tup [x3, .ref na, .bl true])) (upd (upd H2 q (.tup [x3, .ref na, .bl true])) C (.lst (zs.set 1 (.ref q)))) := gr_put (s5 _ _ ez)
          have s6 := (s02.trans s5).put (o := .lst (zs.set 1 (.ref q))) nC
          have i5 : SItem (upd H2 q (.tup [x3, .ref na, .bl true])) (.ref q) (c, ns, true) :=
            ⟨q, x3, .ref na, rfl, upd_same, ((hx.2 3 x3 c rfl rfl).same s02).same s5, na, rfl, s5 _ _ (s02 _ _ en)⟩
          refine ⟨_, rfl, k _ C _ s6 nC upd_same ?_⟩
          have e : scG (.tup (.str w :: [a0, b, c]), ns, gr) = ([b, c].map fun d => (d, ns, gr)).set 1 (c, ns, true) := by
            show (if w = W "let" then _ else if w = W "grow" then _ else _) = _
            rw [if_neg e1, if_pos e2]
            rfl
          rw [e]
          exact all2_set (az.mono fun x b r => r.gr ((Gr.of s5).trans g6)) (i5.gr g6)
      · rw [decide_eq_false e2]
        exact iteF ⟨_, rfl, hgrow H2 (Same.refl _) e1 e2⟩
end
end K6
set_option maxHeartbeats 4000001
namespace K6
open L2 PySem PySem.Spec PyProof.Rows
section
variable {X : Cx}
theorem ps_never {st : Stmt} : PS X st (fun _ _ _ => False) := ⟨fun _ _ _ _ _ _ h => h.elim⟩
theorem pe_never {e : Expr} : PE X e (fun _ _ _ => False) := ⟨fun _ _ _ _ _ _ h => h.elim⟩
end
def inCl (i j : Nat) : Stmt := inClass (top i) j
structure Mf (K : PySem.W.Frag) (C : Addr) (n q : Str) (st : Stmt) (ps : List Str) : Prop where
  ex : ∃ (f : Addr) (fd : FuncData), FunD K n q (defArgs st) (defBody st) (defScope st) [] [] f fd ∧ PySem.W.findIn K (.ref C) n = some (some (.ref f)) ∧ PySem.W.typeIn K (.ref f) = some (.type "function")
  b : ∀ (kV doc pm : Value) (an : Option Addr) (cdv ct : Value) (us : List Value), us.length = ps.length → bindArgs (PySem.W.fnOf n q (defArgs st) (defBody st) (defScope st) .none kV doc pm an cdv ct) ⟨us, []⟩ = pure (ps.zip us)
structure Cm (P : Program) (w : World) (K : PySem.W.Frag) (mg : Str → Option Value) (base : Heap) (k : Nat) (C : Addr) (n : Str) (sp : Sp) : Prop where
  ex : ∃ (f : Addr) (fd : FuncData) (ps : List Str), FnOk P w K mg base (L2.CX P w) k f fd ps sp ∧ PySem.W.findIn K (.ref C) n = some (some (.ref f)) ∧ PySem.W.typeIn K (.ref f) = some (.type "function") ∧ PySem.W.keepIn K (.ref f) = true ∧ Binds K fd ps []
section
variable {P : Program}
variable {w : World} {K : PySem.W.Frag} {mg : Str → Option Value} {base : Heap}
theorem Mf.cm {C : Addr} {n q : Str} {st : Stmt} {N ps : List Str} {k : Nat} {sp : Sp} (F : Mf K C n q st ps) (S : FnScope N ps (defScope st)) (len : ∀ vs H Q E, sp vs H Q E → vs.length = ps.length)
    (hbody : ∀ (f : Addr) (cdv : Value) (A : Around) (outer : List Env) (s : Shared) (H : Hp) (vs : List V) (Q : VK) (E : XK), Room k (A.deeper (envOfC q (defScope st) s.heap.objs.size f cdv)) → sp vs H Q E →
      ∃ t, PSs (cxOf (L2.CX P w) P w K mg base N q (defScope st) f cdv A outer s H E) (defBody st) t ∧ t { nx := fun _ H' => Q .non H', rt := Q } (start N vs) H) : Cm P w K mg base (k + 1) C n sp := by
  obtain ⟨f, fd, FD, m, ty⟩ := F.ex
  exact ⟨f, fd, ps, FD.ok S len fun cdv A outer s H vs Q E hr h => hbody f cdv A outer s H vs Q E hr h, m, ty, FD.kp, FD.bindsN F.b⟩
theorem Cm.mono {j k : Nat} {C : Addr} {x : Str} {sp : Sp} (c : Cm P w K mg base j C x sp) (h : j ≤ k) : Cm P w K mg base k C x sp := by
  obtain ⟨f, fd, ps, F, m, ty, kp, b⟩ := c.ex
  exact ⟨f, fd, ps, F.mono h, m, ty, kp, b⟩
end
structure Bx (K : PySem.W.Frag) (mg : Str → Option Value) (x : Str) (C : Addr) : Prop where
  T : OexC K C
  m : mg x = some (.ref C)
  pl : PySem.W.findIn K (.ref C) "place" = some none
  vV : PySem.W.findCls K (.type "ValueError") (.type "type") "__init__" = some (.val (.builtin "ValueError.__init__"))
def sp_exi (C : Addr) : Sp := fun vs H Q _ => ∃ a v, vs = [.ref a, v] ∧ H a = some (exo a C none) ∧ ∀ dx, H dx = none → dx ≠ a → Q .non (upd (upd H dx (exd dx [("place", v)])) a (exo a C (some dx)))
section
variable {P : Program}
variable {w : World} {K : PySem.W.Frag} {mg : Str → Option Value} {base : Heap}
abbrev s_exi0 : Stmt := inCl 1 0
abbrev s_exi1 : Stmt := inCl 2 0
abbrev N_exi : List Str := ["self", "place"]
theorem sc_exi0 : FnScope N_exi ["self", "place"] (defScope s_exi0) := ⟨rfl, rfl, rfl, by decide +kernel, rfl, by decide +kernel, by decide +kernel⟩
theorem sc_exi1 : FnScope N_exi ["self", "place"] (defScope s_exi1) := ⟨rfl, rfl, rfl, by decide +kernel, rfl, by decide +kernel, by decide +kernel⟩
theorem cm_exi0 {C : Addr} (F : Mf K C "__init__" "BadThing.__init__" s_exi0 ["self", "place"]) (T : Tx mg) (B : Bx K mg "BadThing" C) : Cm P w K mg base 1 C "__init__" (sp_exi C) := by
  refine F.cm sc_exi0 (fun vs H Q E h => by obtain ⟨_, _, rfl, _⟩ := h; rfl) (fun f cdv A outer s H vs Q E hr h => ?_)
  have nd := sc_exi0.nd
  obtain ⟨a, v, rfl, ea, k⟩ := h
  refine ⟨_, (pss_cons (ps_expr (pe_veinit rfl T.n_ValueError B.vV (pa_cons (pv 0) (pa_cons pe_str pa_nil)))) (pss_one (ps_ost (pv 0) (pv 1)))), ?_⟩
  exact ⟨_, rfl, a, C, _, rfl, by decide, B.T, ea, _, rfl, _, rfl, a, C, rfl, B.T, B.pl, .inl ⟨ea, k⟩⟩
theorem cm_exi1 {C : Addr} (F : Mf K C "__init__" "BadGenerator.__init__" s_exi1 ["self", "place"]) (T : Tx mg) (B : Bx K mg "BadGenerator" C) : Cm P w K mg base 1 C "__init__" (sp_exi C) := by
  refine F.cm sc_exi1 (fun vs H Q E h => by obtain ⟨_, _, rfl, _⟩ := h; rfl) (fun f cdv A outer s H vs Q E hr h => ?_)
  have nd := sc_exi1.nd
  obtain ⟨a, v, rfl, ea, k⟩ := h
  refine ⟨_, (pss_cons (ps_expr (pe_veinit rfl T.n_ValueError B.vV (pa_cons (pv 0) (pa_cons pe_str pa_nil)))) (pss_one (ps_ost (pv 0) (pv 1)))), ?_⟩
  exact ⟨_, rfl, a, C, _, rfl, by decide, B.T, ea, _, rfl, _, rfl, a, C, rfl, B.T, B.pl, .inl ⟨ea, k⟩⟩
end
theorem mkO_end {C : Addr} {v : V} {H1 : Hp} {Q : XK} (h : ∀ d H2, H1 d = none → Same H1 H2 → H2 d = some (.xd [("place", v)]) → Q (.ref C) (some d) H2) :
    [v].length ≤ 1000 ∧ ∀ a, H1 a = none → sp_exi C (.ref a :: ([v] ++ [])) (upd H1 a (exo a C none))
      (fun v H2 => v = .non ∧ ∃ (d : Addr) (fs : List (Str × V)), H2 a = some (exo a C (some d)) ∧ H2 d = some (exd d fs) ∧ H1 d = none ∧ Q (.ref C) (some d) (upd (del H2 a) d (.xd fs))) (fun _ _ _ => False) := by
  refine ⟨(by decide : 1 ≤ 1000), fun a ha => ⟨a, v, rfl, upd_same, fun dx hdx hne => ⟨rfl, dx, [("place", v)], upd_same, ?_, ?_, ?_⟩⟩⟩
  · rw [upd_ne hne, upd_same]
  · rw [upd_ne hne] at hdx
    exact hdx
  · rw [upd_ne hne] at hdx
    refine h dx _ hdx (fun b o e => ?_) upd_same
    have nb : b ≠ dx := ne_of_none e hdx
    have na : b ≠ a := ne_of_none e ha
    rw [upd_ne nb, del_ne na, upd_ne na, upd_ne nb, upd_ne na]
    exact e
section
variable {X : Cx} {x : Str} {C : Addr} {e : Expr} {te : TE} {p pos : Pos} {j : Nat} {W : WX}
theorem ps_raiseB (B : Bx X.K X.mg x C) (c : Cm X.prog X.w X.K X.mg X.base j C "__init__" (sp_exi C)) (hr : Room (j + 1) X.A) (hg : Gl X x) (hc : X.calm = true) (tk : Takes X W) (ha : PE X e te)
    (hdb : (x == ("__debug__" : Str)) = false := by decide) (he : starEach [e] X.env = (false, eval e X.env) :: starEach [] X.env := by rfl) (hpl : (backTo pos (starEach [] X.env)).any (·.1) = false := by rfl) :
    PS X (.Raise (some (.Call (.Name x p) [e] [] pos)) none pos') (fun _ σ H => tMkO C (sp_exi C) [] (tCons te tNil) σ H fun cls d H' => W cls d σ H') := by
  obtain ⟨f, fd, ps, F, m, ty, kp, b⟩ := c.ex
  exact ps_raise hc tk (pmk_oex (p := p) (pos := pos) B.T m ty F hr b (dvs := []) .nil passL hg B.m (pa_cons ha pa_nil he) hdb he hpl)
theorem tkE {P : Program} {w : World} {K : PySem.W.Frag} {mg : Str → Option Value} {base : Heap} {N : List Str} {x : Str} {sc : Scope} {f : Addr} {cdv : Value} {A : Around} {outer : List Env} {s : Shared} {H : Hp} {E : XK} :
    Takes (cxOf (L2.CX P w) P w K mg base N x sc f cdv A outer s H E) (fun cls d _ H => E cls d H) := takes_of rfl rfl rfl rfl
end
end K6
set_option maxHeartbeats 4000001
namespace K6
open L2 PySem PySem.Spec PyProof.Rows
def Place (C : Addr) (H : Hp) (way : List Nat) (E : XK) : Prop := ∀ d H' r, Same H H' → H' d = some (.xd [("place", r)]) → WayR H' r way → E (.ref C) (some d) H'
def sp_gen (C : Addr) (ret : V → VK → Hp → Hp → Prop) : Sp := fun vs H Q E => ∃ v d, vs = [v] ∧ Rep H v d ∧ (gw d = none → ∀ H', Same H H' → ret v Q H H') ∧ ∀ way, gw d = some way → Place C H way E
def sp_walked (C : Addr) : Sp := sp_gen C fun _ Q H H' => ∀ r, Q r H'
def sp_need_generator (C : Addr) : Sp := sp_gen C fun v Q H H' => Q v H'
theorem subs_rev_get {β : Type} {sub : β → List β} {it : List Nat × β} {i : Nat} {b : β} (hi : i < (sub it.2).length) (hb : (sub it.2)[(sub it.2).length - 1 - i]? = some b) : (subs sub it).reverse[i]? = some (it.1 ++ [(sub it.2).length - 1 - i], b) := by
  have hl : (subs sub it).length = (sub it.2).length := by simp [subs]
  rw [List.getElem?_reverse (by rw [hl]; exact hi), hl]
  unfold subs
  rw [List.getElem?_map, List.getElem?_zipIdx, hb]
  simp
theorem scG_len {d : D} {ns : Nms} {gr : Bool} (h : hf d = true) : (scG (d, ns, gr)).length ≤ 6 := by
  obtain ⟨w, args, rfl, hl, hw⟩ := hf_split h
  show (if w = W "let" then _ else if w = W "grow" then _ else _ : List GB).length ≤ 6
  split
  · simp
  split
  · simp
  rw [List.length_map]
  exact kidsG_len h
theorem scG_names {d : D} {ns : Nms} {gr : Bool} {b : GB} (h : b ∈ scG (d, ns, gr)) : b.2.1.length ≤ ns.length + 1 := by
  match d, h with
  | .tup (.str w :: args), h =>
    have h : b ∈ (if w = W "let" then _ else if w = W "grow" then _ else _ : List GB) := h
    split at h
    · (rcases List.mem_cons.mp h with e | h)
      · subst e
        exact Nat.le_succ _
      · rw [List.mem_singleton] at h
        subst h
        show List.length (ns ++ [_]) ≤ _
        rw [List.length_append]
        exact Nat.le_refl _
    split at h
    · (rcases List.mem_cons.mp h with e | h)
      · subst e
        exact Nat.le_succ _
      · rw [List.mem_singleton] at h
        subst h
        exact Nat.le_succ _
    · obtain ⟨d, _, rfl⟩ := List.mem_map.mp h
      exact Nat.le_succ _
section
variable {P : Program}
variable {w : World} {K : PySem.W.Frag} {mg : Str → Option Value} {base : Heap}
abbrev s_walked : Stmt := top 81
abbrev N_walked : List Str := ["thing", "found", "left", "way", "part", "names", "grows", "some", "number"]
theorem sc_walked : FnScope N_walked ["thing"] (defScope s_walked) := ⟨rfl, rfl, rfl, by decide +kernel, rfl, by decide +kernel, by decide +kernel⟩
theorem cl_walked {C : Addr} (F : Df K mg "walked" s_walked ["thing"]) (T : Tx mg) (B_BadGenerator : Bx K mg "BadGenerator" C) (i_BadGenerator : Cm P w K mg base 6 C "__init__" (sp_exi C))
    (c_has_form : Cl P w K mg base 6 "has_form" (spB hf)) (c_stands : Cl P w K mg base 1 "stands" sp_stands) (c_scoped_parts : Cl P w K mg base 2 "scoped_parts" sp_scoped) : Cl P w K mg base 8 "walked" (sp_walked C) := by
  refine F.cl sc_walked (fun vs H Q E h => by obtain ⟨_, _, rfl, _⟩ := h; rfl) (fun f cdv A outer s H vs Q E hr h => ?_)
  have nd := sc_walked.nd
  obtain ⟨v, d, rfl, hd, k, ke⟩ := h
  refine ⟨_, (pss_cons (pset 1 nd (pe_lst pa_nil))
    (pss_cons (pset 2 nd (pe_lst (pa_cons (pe_tup (pa_cons (pe_tup pa_nil) (pa_cons (pv 0) (pa_cons (pe_tup pa_nil) (pa_cons pe_bl pa_nil))))) pa_nil)))
    (pss_cons (ps_while (passes_of rfl) (pt_cmpR (op_neEK K hr) (pv 2) (pe_lst pa_nil) (nomark _)) (pss_cons (ps_asg (pe_bm0 PySem.F.plainAttrs_list PySem.F.slot_list_pop PySem.F.type_list_pop mt_pop (pv 2)) (pg_tupK (n := 4) K rfl (pgs_cons (pgn 3 nd) (pgs_cons (pgn 4 nd) (pgs_cons (pgn 5 nd) (pgs_cons (pgn 6 nd) pgs_nil))))))
      (pss_cons (ps_if (PW.pt (pw_or (pt_cmpR op_eq (pe_callB (call_lenK K) rfl T.n_len PySem.boot_len (pa_cons (pv 1) pa_nil)) (C8.pe_gc rfl T.g_MOST_PARTS) (nomark _)) (pw_or (pt_cmpR op_gt (pe_callB (call_lenK K) rfl T.n_len PySem.boot_len (pa_cons (pv 3) pa_nil)) (C8.pe_gc rfl T.g_MOST_WITHIN) (nomark _)) (pw_or (pt_not (pt_val (pf c_has_form hr (by omega) rfl (pa_cons (pv 4) pa_nil)))) (pw_or1 (pt_not (pt_val (pf c_stands hr (by omega) rfl (pa_cons (pv 4) (pa_cons (pv 5) (pa_cons (pv 6) pa_nil))))))))))) (pss_one (ps_raiseB B_BadGenerator i_BadGenerator hr (by rfl) rfl tkE (pv 3))) pss_nil)
      (pss_cons (ps_expr (pe_bm PySem.F.plainAttrs_list PySem.F.slot_list_append PySem.F.type_list_append mt_append (pv 1) (pa_cons (pe_tup (pa_cons (pv 3) (pa_cons (pv 4) pa_nil))) pa_nil)))
      (pss_cons (pset 7 nd (pf c_scoped_parts hr (by omega) rfl (pa_cons (pv 4) (pa_cons (pv 5) (pa_cons (pv 6) pa_nil)))))
      (pss_one (ps_expr (pe_bm PySem.F.plainAttrs_list PySem.F.slot_list_extend PySem.F.type_list_extend mt_extend (pv 2) (pa_cons (pe_lc (own := [("number", 8)]) rfl nd (pi_rr rfl T.n_reversed rfl T.n_range (pe_callB (call_lenK K) rfl T.n_len PySem.boot_len (pa_cons (pv 7) pa_nil))) (blkOk_by (own := [("number", 8)]) (N := N_walked) (sc := defScope s_walked) (by decide +kernel)) (fun _ _ _ _ _ => (pgn 8 nd)) (fun _ _ _ _ _ => pts_nil) (fun _ _ _ _ _ => (pe_op op_catW (pe_tup (pa_cons (pe_op op_catW (pv 3) (pe_tup (pa_cons (pv 8) pa_nil))) pa_nil)) (pe_ix (ix_listK K) (pv 7) (pv 8) (fun _ _ => rfl))))) pa_nil)))))))))
    (pss_one (ps_ret (pv 1)))))), ?_⟩
  refine ⟨lsz, fun F0 hF => ?_⟩
  have sF : Same H (upd H F0 (.lst [])) := (Same.refl H).new hF
  refine ⟨lsz, fun a0 h0 => ⟨_, rfl, lsz, fun b0 g0 => ⟨lsz, fun a1 h1 => ⟨lsz, fun L hL => ?_⟩⟩⟩⟩
  have sA : Same (upd H F0 (.lst [])) (upd (upd (upd (upd H F0 (.lst [])) a0 (.tup [])) b0 (.tup [])) a1 (.tup [.ref a0, v, .ref b0, .bl false])) := (((Same.refl _).new h0).new g0).new h1
  have s0 : Same H (upd (upd (upd (upd (upd H F0 (.lst [])) a0 (.tup [])) b0 (.tup [])) a1 (.tup [.ref a0, v, .ref b0, .bl false])) L (.lst [.ref a1])) := (sF.trans sA).new hL
  have nL : H L = none := s0.free_of (sF.trans sA) hL
  have eF0 : (upd (upd (upd (upd (upd H F0 (.lst [])) a0 (.tup [])) b0 (.tup [])) a1 (.tup [.ref a0, v, .ref b0, .bl false])) L (.lst [.ref a1])) F0 = some (.lst []) := up_ne (sA _ _ upd_same) hL
  have nFL : F0 ≠ L := ne_of_none (sA _ _ upd_same) hL
  refine ⟨fun m σ' H' => ∃ (its : List (List Nat × GB)) (xs fs : List V) (w p n g so nu : Option V), σ' = [some v, some (.ref F0), some (.ref L), w, p, n, g, so, nu] ∧ m ≤ 24 ∧ Same H H' ∧ H' L = some (.lst xs) ∧ H' F0 = some (.lst fs) ∧ fs.length = 24 - m ∧
    All2 (GItem H') xs.reverse its ∧ xs.length ≤ 1 + (24 - m) * 6 ∧ (∀ it ∈ its, it.2.2.1.length ≤ it.1.length) ∧ sw okG scG m its = gw d, ⟨24, [([], d, [], false)], [.ref a1], [], none, none, none, none, none, none, rfl, Nat.le_refl _, s0, upd_same, eF0, rfl, ?_, by simp, by simp, rfl⟩, ?_⟩
  · refine All2.one ⟨a1, .ref a0, v, .ref b0, rfl, up_ne upd_same hL, ⟨a0, rfl, ?_⟩, hd.same s0, b0, rfl, ?_⟩
    · exact up_ne (up_ne (up_ne upd_same g0) h1) hL
    · exact up_ne (up_ne upd_same h1) hL
  rintro m σ' H' ⟨its, xs, fs, w, p, n, g, so, nu, rfl, hmm, s1, eL, eF, hfl, ha, hz, hnm, hsw⟩
  refine ⟨_, rfl, lsz, fun q hq => ⟨L, q, xs, rfl, rfl, sql (up_ne eL hq), sql upd_same, _, rfl, ?_⟩⟩
  have sq : Same H (upd H' q (.lst [])) := s1.new hq
  cases its with
  | nil =>
    have e : xs = [] := by
      have := ha.nil_right
      simpa using this
    subst e
    refine iteF ⟨_, rfl, k ?_ _ sq _⟩
    rw [← hsw]
    cases m <;> rfl
  | cons it its =>
    obtain ⟨ys, x, rfl⟩ : ∃ ys x, xs = ys ++ [x] := by
      have hne : xs ≠ [] := fun e => by
        rw [e] at ha
        have := ha.1
        simp at this
      exact ⟨xs.dropLast, xs.getLast hne, (List.dropLast_concat_getLast hne).symm⟩
    have ha2 : All2 (GItem H') (x :: ys.reverse) (it :: its) := by
      rw [List.reverse_append] at ha
      exact ha
    have hx := ha2.head
    have hys := ha2.tail
    have eq : ((ys ++ [x]).isEmpty != true) = true := by cases ys <;> rfl
    rw [eq]
    refine iteT ⟨_, fun _ _ h => h, ?_⟩
    refine ⟨_, rfl, .inl ⟨rfl, _, sql (up_ne eL hq)⟩, L, _, x, rfl, rfl, up_ne eL hq, by simp, ?_⟩
    rw [List.dropLast_concat]
    have s2 : Same H (upd (upd H' q (.lst [])) L (.lst ys)) := sq.put nL
    have g2 : Gr H' (upd (upd H' q (.lst [])) L (.lst ys)) := (Gr.of ((Same.refl H').new hq)).trans (gr_put (up_ne eL hq))
    have eL2 : (upd (upd H' q (.lst [])) L (.lst ys)) L = some (.lst ys) := upd_same
    have eF2 : (upd (upd H' q (.lst [])) L (.lst ys)) F0 = some (.lst fs) := by rw [upd_ne nFL]; exact up_ne eF hq
    have nF : H F0 = none := hF
    generalize (upd (upd H' q (.lst [])) L (.lst ys)) = H2 at *
    obtain ⟨pa, wv, pv, nv, rfl, hpa, hw2, hp2, hn2⟩ := hx.gr g2
    obtain ⟨way, di, ns, gr⟩ := it
    refine ⟨pa, [wv, pv, nv, .bl gr], rfl, sqt hpa, rfl, wv, _, rfl, pv, _, rfl, nv, _, rfl, .bl gr, [], rfl, rfl, ?_⟩
    obtain ⟨wa, rfl, ewa⟩ := id hw2
    have out : (m = 0 ∨ 5 < way.length ∨ okG (di, ns, gr) = false) → ∀ H3, Same H2 H3 → ∀ d' H4, Same H3 H4 → H4 d' = some (.xd [("place", .ref wa)]) → E (.ref C) (some d') H4 := fun c H3 s3 d' H4 s4 e4 => by
      refine ke way ?_ d' H4 (.ref wa) ((s2.trans s3).trans s4) e4 (hw2.gr (.of (s3.trans s4)))
      rw [← hsw]
      cases m with
      | zero => rfl
      | succ m => exact if_pos (by simpa using c)
    refine ⟨_, rfl, _, fs.length, rfl, .inl ⟨_, sql eF2, rfl⟩, rfl, _, rfl, ?_⟩
    cases e1 : decide (V.int (fs.length : Int) = V.int 24) with
    | true =>
      have hm0 : m = 0 := by
        have := V.int.inj (of_decide_eq_true e1)
        omega
      exact iteT ⟨_, rfl, mkO_end fun d' H4 _ s4 e4 => out (.inl hm0) H2 (Same.refl _) d' H4 s4 e4⟩
    | false =>
    have hm0 : m ≠ 0 := fun z => by
      subst z
      exact of_decide_eq_false e1 (congrArg V.int (by omega))
    refine iteF ⟨_, rfl, _, way.length, rfl, .inr ⟨_, sqt ewa, by simp⟩, (way.length : Int), 5, rfl, rfl, _, rfl, ?_⟩
    cases e2 : decide ((5 : Int) < (way.length : Int)) with
    | true => exact iteT ⟨_, rfl, mkO_end fun d' H4 _ s4 e4 => out (.inr (.inl (by have := of_decide_eq_true e2; omega))) H2 (Same.refl _) d' H4 s4 e4⟩
    | false =>
    have h5 : ¬ 5 < way.length := fun z => of_decide_eq_false e2 (by omega)
    refine iteF ⟨pv, rfl, pv, di, rfl, hp2, fun H3 s3 => ⟨_, rfl, ?_⟩⟩
    cases e3 : hf di with
    | false => exact iteT ⟨_, rfl, mkO_end fun d' H4 _ s4 e4 => out (.inr (.inr (by show (hf di && _) = false; rw [e3, Bool.false_and]))) H3 s3 d' H4 s4 e4⟩
    | true =>
    refine iteF ⟨pv, rfl, nv, rfl, _, rfl, pv, di, nv, ns, gr, rfl, hp2.same s3, e3, hn2.gr (.of s3), fun H4 s4 => ⟨_, rfl, ?_⟩⟩
    have s34 := s3.trans s4
    cases e4 : stG (di, ns, gr) with
    | false => exact iteT ⟨_, rfl, mkO_end fun d' H5 _ s5 e5 => out (.inr (.inr (by show (hf di && _) = false; rw [e4, Bool.and_false]))) H4 s34 d' H5 s5 e5⟩
    | true =>
    have hok : okG (di, ns, gr) = true := by show (hf di && _) = true; rw [e3, e4]; rfl
    obtain ⟨m, rfl⟩ : ∃ m', m = m' + 1 := ⟨m - 1, by omega⟩
    have hf2 : sw okG scG m (subs scG (way, di, ns, gr) ++ its) = gw d := by
      rw [← hsw]
      exact (if_neg (by rintro (z | z) <;> first | exact h5 z | (rw [hok] at z; cases z))).symm
    have hnm0 : ns.length ≤ way.length := hnm _ List.mem_cons_self
    have eF4 := s34 _ _ eF2
    have eL4 := s34 _ _ eL2
    have g4 : Gr H' H4 := g2.trans (.of s34)
    refine iteF ⟨_, rfl, .inl ⟨rfl, _, sql eF4⟩, _, rfl, _, rfl, lsz, fun t ht => ⟨F0, fs, _, rfl, rfl, up_ne eF4 ht, sizes (by omega), ?_⟩⟩
    have s5 : Same H (upd (upd H4 t (.tup [.ref wa, pv])) F0 (.lst (fs ++ [.ref t]))) := ((s2.trans s34).new ht).put nF
    have g5 : Gr H4 (upd (upd H4 t (.tup [.ref wa, pv])) F0 (.lst (fs ++ [.ref t]))) := (Gr.of ((Same.refl H4).new ht)).trans (gr_put (up_ne eF4 ht))
    have eL5 : (upd (upd H4 t (.tup [.ref wa, pv])) F0 (.lst (fs ++ [.ref t]))) L = some (.lst ys) := by rw [upd_ne (Ne.symm nFL)]; exact up_ne eL4 ht
    have eF5 : (upd (upd H4 t (.tup [.ref wa, pv])) F0 (.lst (fs ++ [.ref t]))) F0 = some (.lst (fs ++ [.ref t])) := upd_same
    generalize (upd (upd H4 t (.tup [.ref wa, pv])) F0 (.lst (fs ++ [.ref t]))) = H5 at *
    have g25 : Gr H2 H5 := (Gr.of s34).trans g5
    refine ⟨_, rfl, _, rfl, _, rfl, pv, di, nv, ns, gr, rfl, hp2.gr g25, e3, by omega, hn2.gr g25, fun H6 a6 zs s6 ha6 e6 az => ?_⟩
    have lz := az.1
    have lsc := scG_len (ns := ns) (gr := gr) e3
    have eL6 := s6 _ _ eL5
    have eF6 := s6 _ _ eF5
    have ewa6 := (g25.trans (.of s6)).tup _ _ ewa
    have lk : (subs scG (way, di, ns, gr)).length = (scG (di, ns, gr)).length := by simp [subs]
    refine ⟨_, rfl, .inl ⟨rfl, _, sql eL6⟩, ?_⟩
    refine ⟨_, rfl, .ref a6, zs.length, rfl, .inl ⟨zs, sql e6, rfl⟩, _, rfl, by omega, by omega, by omega, by omega, fun D0 hD => lc_it walk_rangeC (CPv GItem (subs scG (way, di, ns, gr)).reverse H6 D0) (cpv_start hD) (fun _ _ _ _ => trivial) ?_ ?_⟩
    · rintro i x H7 H8 hi pv7 ⟨rfl, rfl⟩
      have hi2 : i < (scG (di, ns, gr)).length := by omega
      have hj : (scG (di, ns, gr)).length - 1 - i < (scG (di, ns, gr)).length := by omega
      have ej : (0 + (((((zs.length : Nat) : Int) - 0).toNat : Nat) : Int) - 1 + (i : Int) * -1) = (((scG (di, ns, gr)).length - 1 - i : Nat) : Int) := by omega
      obtain ⟨xj, hxj, rxj⟩ := az.get (List.getElem?_eq_getElem hj)
      have hk := subs_rev_get (it := (way, di, ns, gr)) hi2 (List.getElem?_eq_getElem hj)
      generalize hb : (scG (di, ns, gr))[(scG (di, ns, gr)).length - 1 - i] = bj at *
      clear hb
      generalize (scG (di, ns, gr)).length - 1 - i = jj at *
      have s8 := pv7.1
      obtain ⟨pj, pvj, nvj, rfl, epj, hpj, hnj⟩ := rxj
      have hz5 : (way.map fun k : Nat => V.int (k : Int)).length + 1 ≤ sizeLine := by
        rw [List.length_map]
        exact sizes' (by show way.length + 1 ≤ 1000000; omega)
      refine ⟨rfl, _, rfl, _, rfl, lsz, fun t2 ht2 => ⟨wa, t2, _, _, rfl, rfl, up_ne (s8 _ _ ewa6) ht2, upd_same, hz5, fun r H9 s9 er => ⟨lsz, fun p2 hp2 => ⟨_, rfl, _, rfl, a6, zs, _, _, rfl, rfl, sql (up_ne (s9 _ _ (up_ne (s8 _ _ e6) ht2)) hp2), ?_, p2, pj, _, _, rfl, rfl, upd_same, up_ne (s9 _ _ (up_ne (s8 _ _ epj) ht2)) hp2, lsz, fun r2 H10 s10 er2 => ?_⟩⟩⟩⟩
      · show atI zs _ = some _
        rw [ej]
        exact atI_nat hxj
      · have sA : Same _ H10 := (((Same.refl H8).new ht2).trans s9).new (o := .tup [.ref r]) hp2 |>.trans s10
        refine cpv_fin (fun _ _ _ _ g r => r.gr g) hD (by rw [List.length_reverse, lk]; omega) hk pv7 sA ⟨r2, .ref r, pvj, nvj, rfl, er2, ⟨r, rfl, ?_⟩, (hpj.same s8).same sA, (hnj.gr (.of s8)).gr (.of sA)⟩
        rw [s10 _ _ (up_ne er hp2), List.map_append]
        show some (HO.tup (_ ++ [V.int _])) = _
        rw [ej]
        rfl
    · intro H7 pv7
      obtain ⟨s7, ws, ews, aws⟩ := cpv_done (by rw [List.length_reverse, lk]; omega) pv7
      have eL7 := s7 _ _ eL6
      have eF7 := s7 _ _ eF6
      have lw : ws.length ≤ 6 := by
        rw [aws.1, List.length_reverse, lk]
        omega
      have ly : ys.length + 1 ≤ 1 + (24 - (m + 1)) * 6 := by
        rw [List.length_append, List.length_singleton] at hz
        exact hz
      refine ⟨L, D0, ys, ws, rfl, rfl, eL7, ews, sizes' (by omega), m, Nat.lt_succ_self m, subs scG (way, di, ns, gr) ++ its, ys ++ ws, fs ++ [.ref t], _, _, _, _, _, _, rfl, by omega, ((s5.trans s6).trans s7).put nL, upd_same, ?_, by rw [List.length_append, hfl]; simp; omega, ?_, by rw [List.length_append]; omega, ?_, hf2⟩
      · rw [upd_ne nFL]
        exact eF7
      · have g8 : Gr H7 (upd H7 L (.lst (ys ++ ws))) := gr_put eL7
        rw [List.reverse_append]
        have r1 := (aws.mono fun x d r => r.gr g8).rev
        rw [List.reverse_reverse] at r1
        exact r1.app (hys.mono fun x d r => r.gr ((g4.trans g5).trans ((Gr.of (s6.trans s7)).trans g8)))
      · intro it hit
        rcases List.mem_append.mp hit with hit | hit
        · obtain ⟨q2, hq2, rfl⟩ := List.mem_map.mp (show it ∈ (scG (di, ns, gr)).zipIdx.map fun p => (way ++ [p.2], p.1) from hit)
          have hm2 : q2.1 ∈ scG (di, ns, gr) := by
            obtain ⟨_, _, e⟩ := List.mem_zipIdx hq2
            rw [e]
            exact List.getElem_mem _
          have := scG_names hm2
          (rw [List.length_append, List.length_singleton])
          show List.length q2.1.2.1 ≤ _
          omega
        · exact hnm it (List.mem_cons_of_mem _ hit)
end
end K6
set_option maxHeartbeats 4000001
namespace K6
open L2 PySem PySem.Spec PyProof.Rows
def sp_need_thing (C : Addr) : Sp := fun vs H Q E => ∃ v d, vs = [v] ∧ Rep H v d ∧ (fb (gd (10 ^ 60)) 300 300 [([], d)] = none → ∀ H', Same H H' → Q v H') ∧ ∀ way, fb (gd (10 ^ 60)) 300 300 [([], d)] = some way → Place C H way E
section
variable {P : Program}
variable {w : World} {K : PySem.W.Frag} {mg : Str → Option Value} {base : Heap}
abbrev s_need_thing : Stmt := top 34
abbrev N_need_thing : List Str := ["thing", "bad"]
theorem sc_need_thing : FnScope N_need_thing ["thing"] (defScope s_need_thing) := ⟨rfl, rfl, rfl, by decide +kernel, rfl, by decide +kernel, by decide +kernel⟩
theorem cl_need_thing {C : Addr} (F : Df K mg "need_thing" s_need_thing ["thing"]) (T : Tx mg) (B_BadThing : Bx K mg "BadThing" C) (i_BadThing : Cm P w K mg base 2 C "__init__" (sp_exi C)) (c_first_bad : Cl P w K mg base 3 "first_bad" sp_first_bad) :
    Cl P w K mg base 4 "need_thing" (sp_need_thing C) := by
  refine F.cl sc_need_thing (fun vs H Q E h => by obtain ⟨_, _, rfl, _⟩ := h; rfl) (fun f cdv A outer s H vs Q E hr h => ?_)
  have nd := sc_need_thing.nd
  obtain ⟨v, d, rfl, hd, k, ke⟩ := h
  refine ⟨_, (pss_cons (pset 1 nd (pf c_first_bad hr (by omega) rfl (pa_cons (pv 0) (pa_cons (C8.pe_gc rfl T.g_MOST_THINGS) pa_nil))))
    (pss_cons (ps_if (pt_cmpR op_notN (pv 1) pe_non (nomark _)) (pss_one (ps_raiseB B_BadThing i_BadThing hr (by rfl) rfl tkE (pv 1))) pss_nil)
    (pss_one (ps_ret (pv 0))))), ?_⟩
  refine ⟨v, rfl, v, d, 300, rfl, hd, Nat.le_refl _, fun H1 r s1 hr1 => ?_⟩
  cases e : fb (gd (10 ^ 60)) 300 300 [([], d)] with
  | none =>
    rw [e] at hr1
    obtain rfl : r = .non := hr1
    exact ⟨_, rfl, rfl, _, rfl, iteF ⟨v, rfl, k e H1 s1⟩⟩
  | some way =>
    rw [e] at hr1
    obtain ⟨a, rfl, ea⟩ := hr1
    exact ⟨_, rfl, rfl, _, rfl, iteT ⟨_, rfl, mkO_end fun d' H4 _ s4 e4 => ke way e d' H4 _ (s1.trans s4) e4 ⟨a, rfl, s4 _ _ ea⟩⟩⟩
abbrev s_need_generator : Stmt := top 82
abbrev N_need_generator : List Str := ["thing"]
theorem sc_need_generator : FnScope N_need_generator ["thing"] (defScope s_need_generator) := ⟨rfl, rfl, rfl, by decide +kernel, rfl, by decide +kernel, by decide +kernel⟩
theorem cl_need_generator {C : Addr} (F : Df K mg "need_generator" s_need_generator ["thing"]) (T : Tx mg) (c_walked : Cl P w K mg base 8 "walked" (sp_walked C)) : Cl P w K mg base 9 "need_generator" (sp_need_generator C) := by
  refine F.cl sc_need_generator (fun vs H Q E h => by obtain ⟨_, _, rfl, _⟩ := h; rfl) (fun f cdv A outer s H vs Q E hr h => ?_)
  have nd := sc_need_generator.nd
  obtain ⟨v, d, rfl, hd, k, ke⟩ := h
  refine ⟨_, (pss_cons (ps_expr (pfX c_walked tkE (fun _ _ _ _ h => h) hr (by omega) rfl (pa_cons (pv 0) pa_nil)))
    (pss_one (ps_ret (pv 0)))), ?_⟩
  exact ⟨v, rfl, v, d, rfl, hd, fun e H1 s1 r => ⟨v, rfl, k e H1 s1⟩, ke⟩
abbrev s__law_own : Stmt := top 104
abbrev N__law_own : List Str := ["_law_generator_here", "_law_word_here", "_law_weight", "_law_part"]
theorem sc__law_own : FnScope N__law_own ["_law_generator_here"] (defScope s__law_own) := ⟨rfl, rfl, rfl, by decide +kernel, rfl, by decide +kernel, by decide +kernel⟩
theorem cl__law_own (F : Df K mg "_law_own" s__law_own ["_law_generator_here"]) (T : Tx mg) : Cl P w K mg base 1 "_law_own" sp_own_parts := by
  refine F.cl sc__law_own (fun vs H Q E h => by obtain ⟨_, _, rfl, _⟩ := h; rfl) (fun f cdv A outer s H vs Q E hr h => ?_)
  have nd := sc__law_own.nd
  obtain ⟨v, d, rfl, hd, hh, k⟩ := h
  obtain ⟨w, args, rfl, hl, hw⟩ := hf_split hh
  refine ⟨_, (pss_cons (pset 1 nd (pe_ix (ix_tupK K) (pv 0) pe_int (fun _ _ => rfl)))
    (pss_cons (ps_if (pt_cmpR op_eq (pv 1) pe_str (nomark _)) (pss_one (ps_ret (pe_lc (own := [("_law_weight", 2), ("_law_part", 3)]) rfl nd (pi_tupK K (pe_ix (ix_tupK K) (pv 0) pe_int (fun _ _ => rfl))) (blkOk_by (own := [("_law_weight", 2), ("_law_part", 3)]) (N := N__law_own) (sc := defScope s__law_own) (by decide +kernel)) (fun _ _ _ _ _ => (pg_tupK (n := 2) K rfl (pgs_cons (pgn 2 nd) (pgs_cons (pgn 3 nd) pgs_nil)))) (fun _ _ _ _ _ => pts_nil) (fun _ _ _ _ _ => (pv 3))))) pss_nil)
    (pss_cons (ps_if (pt_cmpR op_eq (pv 1) pe_str (nomark _)) (pss_one (ps_ret (pe_callTy (call_lstK K) rfl T.n_list bt_list (pa_cons (pe_ix (ix_tupK K) (pv 0) pe_int (fun _ _ => rfl)) pa_nil)))) pss_nil)
    (pss_cons (ps_if (pt_cmpR (op_inK K) (pv 1) (pe_tup (pa_cons pe_str (pa_cons pe_str pa_nil))) rfl) (pss_one (ps_ret (pe_callTy (call_lstK K) rfl T.n_list bt_list (pa_cons (pe_slice (sl_tupK K) (pv 0) (po_some pe_int) po_none) pa_nil)))) pss_nil)
    (pss_one (ps_ret (pe_ifExp (pt_cmpR (op_inK K) (pv 1) (pe_tup (pa_cons pe_str (pa_cons pe_str (pa_cons pe_str (pa_cons pe_str pa_nil))))) rfl) (pe_lst (pa_cons (pe_ix (ix_tupK K) (pv 0) (pe_un un_neg pe_int) (fun _ _ => rfl)) pa_nil)) (pe_lst pa_nil)))))))), ?_⟩
  obtain ⟨p, xs, rfl, ep, hx⟩ := hd.tup_inv
  obtain ⟨x0, e0, r0⟩ := hx.get (i := 0) (d := .str w) rfl
  obtain rfl := rep_str r0
  refine ⟨_, rfl, p, xs, 0, _, rfl, rfl, sqt ep, atI_nat (j := 0) e0, ?_⟩
  (refine ⟨_, rfl, rfl, _, rfl, ?_⟩)
  rw [dstr w "mix"]
  by_cases e1 : w = W "mix"
  · rw [decide_eq_true e1]
    subst e1
    obtain ⟨ps, rfl, l1, l2, _⟩ := hf_mix hl hw
    obtain ⟨x1, ex1, r1⟩ := hx.get (i := 1) (d := .tup _) rfl
    obtain ⟨b, ys, rfl, eb, hy⟩ := r1.tup_inv
    have hk : kidsG (.tup (.str (W "mix") :: [.tup (ps.map fun p => .tup [.int p.1, p.2])])) = ps.map (·.2) := by
      show (ps.map fun p => D.tup [.int p.1, p.2]).map sndD = _
      rw [List.map_map]
      rfl
    rw [hk] at k
    refine iteT ⟨_, rfl, p, xs, 1, _, rfl, rfl, sqt ep, atI_nat (j := 1) ex1, b, rfl, ⟨ys, sqt eb⟩, fun C hC => lc_it (walk_tup (xs := ys)) (CPv Rep (ps.map (·.2)) H C) (cpv_start hC) (fun i H2 _ pv2 => sqt (pv2.1 _ _ eb)) ?_ ?_⟩
    · rintro i x H2 H3 hi pv2 ⟨rfl, hxi⟩
      obtain ⟨di, hdi, ri⟩ := hy.getV hxi
      rw [List.getElem?_map] at hdi
      cases ep2 : ps[i]? with
      | none => rw [ep2] at hdi; cases hdi
      | some q =>
        rw [ep2] at hdi
        obtain rfl : D.tup [.int q.1, q.2] = di := Option.some.inj hdi
        obtain ⟨c, y0, y1, rfl, ec, ry0, ry1⟩ := tup2_inv ri
        refine ⟨c, _, rfl, sqt (pv2.1 _ _ ec), rfl, y0, [y1], rfl, y1, [], rfl, rfl, rfl, _, rfl, ?_⟩
        exact cpv_fin (fun _ _ _ _ g r => r.gr g) hC (by rw [List.length_map]; omega) (by rw [List.getElem?_map, ep2]; rfl) pv2 (Same.refl _) (ry1.same pv2.1)
    · intro H2 pv2
      obtain ⟨s2, zs, ez, az⟩ := cpv_done (by rw [List.length_map, hy.1, List.length_map]; exact Nat.le_refl _) pv2
      exact k H2 C zs s2 hC ez az
  rw [decide_eq_false e1]
  refine iteF ⟨_, rfl, rfl, _, rfl, ?_⟩
  rw [dstr w "all"]
  by_cases e2 : w = W "all"
  · rw [decide_eq_true e2]
    subst e2
    obtain ⟨ds, rfl, l2⟩ := hf_all hl hw
    obtain ⟨x1, ex1, r1⟩ := hx.get (i := 1) (d := .tup _) rfl
    obtain ⟨b, ys, rfl, eb, hy⟩ := r1.tup_inv
    exact iteT ⟨_, rfl, p, xs, 1, _, rfl, rfl, sqt ep, atI_nat (j := 1) ex1, b, ys, rfl, .inr (sqt eb), fun L hL => k _ L ys ((Same.refl _).new hL) hL upd_same (hy.same ((Same.refl _).new hL))⟩
  rw [decide_eq_false e2]
  refine iteF ⟨_, rfl, lsz, fun t ht => ⟨t, _, rfl, .inr (sqt upd_same), rfl, rfl, _, rfl, ?_⟩⟩
  have s2 := (Same.refl H).new (o := .tup [.str "let", .str "grow"]) ht
  have e7 : inV (.str (S w)) [V.str "let", V.str "grow"] = decide (w ∈ [W "let", W "grow"]) := inV_W w ["let", "grow"]
  rw [if_neg (by decide), e7]
  by_cases e3 : w ∈ [W "let", W "grow"]
  · rw [decide_eq_true e3]
    have e9 : w = W "let" ∨ w = W "grow" := by simpa using e3
    have n2 : lenOf w = 4 := by rcases e9 with e | e <;> (rw [e]; decide +kernel)
    have hk : kidsG (.tup (.str w :: args)) = args.drop 1 := by
      show (if w = W "mix" then _ else _) = _
      rw [if_neg e1, if_neg e2, if_pos e9]
    rw [hk] at k
    obtain ⟨a, b, c, rfl⟩ := len_three (hl.trans n2)
    obtain ⟨x0, x1, x2, x3, rfl⟩ := four_of hx.1
    have ep2 := s2 _ _ ep
    refine iteT ⟨_, rfl, 2, rfl, p, _, rfl, sqt ep2, (show ¬ (HT.sIx 4 0 (some 2) = 0 ∧ HT.sIx 4 4 none = 4) by decide), fun t2 ht2 => ⟨t2, _, rfl, .inr (sqt upd_same), fun L hL => ?_⟩⟩
    have s3 := (s2.new (o := .tup [x2, x3]) ht2).new (o := .lst [x2, x3]) hL
    exact k _ L [x2, x3] s3 ((s2.new (o := .tup [x2, x3]) ht2).free hL) upd_same (Reps.cons ((hx.2 2 x2 b rfl rfl).same s3) (Reps.cons ((hx.2 3 x3 c rfl rfl).same s3) Reps.nil))
  · rw [decide_eq_false e3]
    have e9 : ¬ (w = W "let" ∨ w = W "grow") := by simpa using e3
    refine iteF ⟨_, rfl, lsz, fun t2 ht2 => ⟨t2, _, rfl, .inr (sqt upd_same), rfl, rfl, _, rfl, ?_⟩⟩
    have s3 := s2.new (o := .tup [.str "row", .str "turn", .str "keep", .str "times"]) ht2
    have e10 : inV (.str (S w)) [V.str "row", V.str "turn", V.str "keep", V.str "times"] = decide (w ∈ [W "row", W "turn", W "keep", W "times"]) := inV_W w ["row", "turn", "keep", "times"]
    rw [if_neg (by decide), e10]
    by_cases e4 : w ∈ [W "row", W "turn", W "keep", W "times"]
    · rw [decide_eq_true e4]
      have e11 : w = W "row" ∨ w = W "turn" ∨ w = W "keep" ∨ w = W "times" := by simpa using e4
      have n2 : 3 ≤ lenOf w := by rcases e11 with e | e | e | e <;> (rw [e]; decide +kernel)
      have hk : kidsG (.tup (.str w :: args)) = [args.getLastD .non] := by
        show (if w = W "mix" then _ else _) = _
        rw [if_neg e1, if_neg e2, if_neg e9, if_pos e11]
      rw [hk] at k
      obtain ⟨as, al, rfl⟩ := snoc_of (show args ≠ [] from fun z => by subst z; simp at hl; omega)
      obtain ⟨ys, y, rfl⟩ := snoc_of (show xs ≠ [] from fun z => by subst z; have := hx.1; simp at this)
      have hy : Rep H y al := hx.2 ys.length y al (by simp) (by
        have := hx.1
        simp at this
        rw [show D.str w :: (as ++ [al]) = (D.str w :: as) ++ [al] from rfl, List.getElem?_append_right (by simp [this])]
        simp [this])
      refine iteT ⟨_, rfl, 1, rfl, p, _, (-1 : Int), y, rfl, rfl, sqt (s3 _ _ ep), atI_last _ _, lsz, fun L hL => ?_⟩
      have s4 := s3.new (o := .lst [y]) hL
      refine k _ L [y] s4 (s3.free hL) upd_same ?_
      rw [show (as ++ [al]).getLastD .non = al by simp]
      exact Reps.cons (hy.same s4) Reps.nil
    · rw [decide_eq_false e4]
      have e11 : ¬ (w = W "row" ∨ w = W "turn" ∨ w = W "keep" ∨ w = W "times") := by simpa using e4
      have hk : kidsG (.tup (.str w :: args)) = [] := by
        show (if w = W "mix" then _ else _) = _
        rw [if_neg e1, if_neg e2, if_neg e9, if_neg e11]
      rw [hk] at k
      refine iteF ⟨lsz, fun L hL => ?_⟩
      exact k _ L [] (s3.new hL) (s3.free hL) upd_same Reps.nil
end
end K6
set_option maxHeartbeats 4000001
namespace K6
open L2 PySem PySem.Spec PyProof.Rows
def sp_lform : Sp := fun vs H Q _ => ∃ v w args, vs = [v] ∧ Rep H v (.tup (.str w :: args)) ∧ ∀ H', Same H H' → Q (.bl (hf (.tup (.str w :: args)))) H'
def lensA : List (String × Int) := [("just", 2), ("some", 2), ("from", 3), ("mix", 2), ("all", 2), ("row", 4), ("turn", 3), ("keep", 4), ("let", 4), ("var", 2)]
def lensB : List (String × Int) := [("upto", 2), ("times", 3), ("grow", 4), ("again", 1)]
def kvW (l : List (String × Int)) : List (Key × V) := l.map fun p => (.inr (Str.ofString p.1), .int p.2)
theorem valV_W (w : List Nat) : ∀ l : List (String × Int), valV (kvW l) (.inr (S w)) = (l.find? fun p => decide (w = W p.1)).map fun p => V.int p.2
  | [] => rfl
  | p :: r => by
    rw [List.find?_cons]
    by_cases h : w = W p.1
    · rw [decide_eq_true h]
      exact valV_pos (congrArg Sum.inr (by rw [h, S_W]))
    · rw [decide_eq_false h]
      rw [show kvW (p :: r) = (.inr (Str.ofString p.1), V.int p.2) :: kvW r from rfl, valV_neg (fun z => h (S_inj' (by rw [S_W]; exact (Sum.inr.inj z).symm)))]
      exact valV_W w r
theorem lens_law (w : List Nat) : (valV (kvW lensB) (.inr (S w))).getD ((valV (kvW lensA) (.inr (S w))).getD (.int 0)) = .int (lenOf w : Int) := by
  rw [valV_W, valV_W]
  have go : ∀ l : List (String × Int), (∃ p ∈ l, w = W p.1) ∨ ∀ p ∈ l, w ≠ W p.1 := fun l => by
    by_cases h : ∃ p ∈ l, w = W p.1
    · exact .inl h
    · exact .inr fun p hp e => h ⟨p, hp, e⟩
  rcases go (lensB ++ lensA) with ⟨p, hp, e⟩ | h
  · subst e
    have key : ∀ p ∈ lensB ++ lensA, ((lensB.find? fun q => decide (W p.1 = W q.1)).map fun p => p.2).getD (((lensA.find? fun q => decide (W p.1 = W q.1)).map fun p => p.2).getD 0) = (lenOf (W p.1) : Int) := by decide +kernel
    have k2 := key p hp
    rw [← k2]
    cases (lensB.find? fun q => decide (W p.1 = W q.1)) <;> cases (lensA.find? fun q => decide (W p.1 = W q.1)) <;> rfl
  · have h1 : (lensB.find? fun q => decide (w = W q.1)) = none := List.find?_eq_none.mpr fun p hp z => h p (List.mem_append_left _ hp) (of_decide_eq_true z)
    have h2 : (lensA.find? fun q => decide (w = W q.1)) = none := List.find?_eq_none.mpr fun p hp z => h p (List.mem_append_right _ hp) (of_decide_eq_true z)
    rw [h1, h2]
    have h3 : lenOf w = 0 := by
      simp only [lensA, lensB, List.cons_append, List.nil_append, List.mem_cons, List.not_mem_nil, or_false, forall_eq_or_imp, forall_eq] at h
      simp [lenOf, h]
    rw [h3]
    rfl
def CEv {α : Type} (f : α → Bool) (ds : List α) (H5 : Hp) (C : Addr) (i : Nat) (H' : Hp) : Prop := Same H5 H' ∧ ∃ zs, H' C = some (.lst zs) ∧ zs.length ≤ i ∧ zs.isEmpty = (ds.take i).all f
theorem take_all {α : Type} {f : α → Bool} {ds : List α} {i : Nat} {di : α} (hdi : ds[i]? = some di) : (ds.take (i + 1)).all f = ((ds.take i).all f && f di) := by
  rw [List.take_succ, hdi, List.all_append]
  show (_ && (f di && true)) = _
  rw [Bool.and_true]
section
variable {α : Type} {f : α → Bool} {ds : List α} {H5 : Hp} {C : Addr}
theorem cev_start (hC : H5 C = none) : CEv f ds H5 C 0 (upd H5 C (.lst [])) := ⟨(Same.refl _).new hC, [], upd_same, Nat.le_refl _, rfl⟩
theorem cev_keep {i : Nat} {di : α} {H6 H8 : Hp} (hdi : ds[i]? = some di) (eo : f di = true) (pv : CEv f ds H5 C i H6) (s8 : Same H6 H8) : CEv f ds H5 C (i + 1) H8 := by
  obtain ⟨s6, zs, ez, lz, hz⟩ := pv
  refine ⟨s6.trans s8, zs, s8 _ _ ez, by omega, ?_⟩
  rw [take_all hdi, eo, Bool.and_true]
  exact hz
theorem cev_add {i : Nat} {di : α} {H6 H8 : Hp} {x : V} (hC : H5 C = none) (hi : i ≤ 1000) (hdi : ds[i]? = some di) (eo : f di = false) (pv : CEv f ds H5 C i H6) (s8 : Same H6 H8) : ∃ acc, H8 C = some (.lst acc) ∧ acc.length < sizeLine ∧ CEv f ds H5 C (i + 1) (upd H8 C (.lst (acc ++ [x]))) := by
  obtain ⟨s6, zs, ez, lz, hz⟩ := pv
  refine ⟨zs, s8 _ _ ez, sizes (by omega), (s6.trans s8).put hC, zs ++ [x], upd_same, by rw [List.length_append]; simp; exact lz, ?_⟩
  rw [take_all hdi, eo, Bool.and_false]
  cases zs <;> rfl
theorem cev_fin {n : Nat} {H6 : Hp} (hn : ds.length ≤ n) (pv : CEv f ds H5 C n H6) : Same H5 H6 ∧ ∃ zs, H6 C = some (.lst zs) ∧ zs.isEmpty = ds.all f := by
  obtain ⟨s6, zs, ez, lz, hz⟩ := pv
  rw [List.take_of_length_le hn] at hz
  exact ⟨s6, zs, ez, hz⟩
end
theorem span_law (a b : D) : span a b = (amg (-((10 : Int) ^ (30 : Int).toNat - 1)) ((10 : Int) ^ (30 : Int).toNat - 1) a && (match a with | .int i => amg i (if i + 99 < (10 : Int) ^ (30 : Int).toNat - 1 then i + 99 else (10 : Int) ^ (30 : Int).toNat - 1) b | _ => false)) := by
  have e30 : (10 : Int) ^ (30 : Int).toNat = 10 ^ 30 := rfl
  rw [e30]
  cases a with
  | int i =>
    cases b with
    | int j =>
      rw [span_int]
      show ((decide (-(10 ^ 30) < i) && decide (i < 10 ^ 30)) && ((decide (-(10 ^ 30) < j) && decide (j < 10 ^ 30)) && (decide (0 ≤ j - i) && decide (j - i ≤ 99)))) = ((decide (-(10 ^ 30 - 1) ≤ i) && decide (i ≤ 10 ^ 30 - 1)) && (decide (i ≤ j) && decide (j ≤ if i + 99 < 10 ^ 30 - 1 then i + 99 else 10 ^ 30 - 1)))
      rw [Bool.eq_iff_iff]
      (simp only [Bool.and_eq_true, decide_eq_true_eq])
      split <;> omega
    | _ =>
      show false = (_ && false)
      rw [Bool.and_false]
  | _ => rfl
section
variable {P : Program}
variable {w : World} {K : PySem.W.Frag} {mg : Str → Option Value} {base : Heap}
abbrev s__law_has_form : Stmt := top 111
abbrev N__law_has_form : List Str := ["_law_thing_here", "_law_longs", "_law_word_here", "_law_first", "_law_some", "_law_one_here", "_law_bound", "_law_pair", "_law_weight", "_law_part", "_law_tests"]
theorem sc__law_has_form : FnScope N__law_has_form ["_law_thing_here"] (defScope s__law_has_form) := ⟨rfl, rfl, rfl, by decide +kernel, rfl, by decide +kernel, by decide +kernel⟩
theorem cl__law_has_form (F : Df K mg "_law_has_form" s__law_has_form ["_law_thing_here"]) (T : Tx mg) (c__law_are_many : Cl P w K mg base 1 "_law_are_many" sp_many) (c__law_is_own : Cl P w K mg base 3 "_law_is_own" (spB own)) (c__law_among : Cl P w K mg base 2 "_law_among" sp_among) (c__law_is_name : Cl P w K mg base 1 "_law_is_name" (spB isName)) :
    Cl P w K mg base 4 "_law_has_form" sp_lform := by
  refine F.cl sc__law_has_form (fun vs H Q E h => by obtain ⟨_, _, _, rfl, _⟩ := h; rfl) (fun f cdv A outer s H vs Q E hr h => ?_)
  have nd := sc__law_has_form.nd
  have hu : (A.deeper (envOfC "_law_has_form" (defScope s__law_has_form) s.heap.objs.size f cdv)).units + 1 < cLine := by have := hr.units; omega
  obtain ⟨v, w, args, rfl, hd, k⟩ := h
  refine ⟨_, (pss_cons (pset 1 nd (pe_disp (pps_cons pe_str pe_int (pps_cons pe_str pe_int (pps_cons pe_str pe_int (pps_cons pe_str pe_int (pps_cons pe_str pe_int (pps_cons pe_str pe_int (pps_cons pe_str pe_int (pps_cons pe_str pe_int (pps_cons pe_str pe_int (pps_cons pe_str pe_int pps_nil)))))))))) (by rfl) (by rfl) (fun z => by cases z) (by decide)))
    (pss_cons (ps_if (pt_cmpR op_ne (pe_callB (call_lenK K) rfl T.n_len PySem.boot_len (pa_cons (pv 0) pa_nil)) (pe_dget2 hu (pe_disp (pps_cons pe_str pe_int (pps_cons pe_str pe_int (pps_cons pe_str pe_int (pps_cons pe_str pe_int pps_nil)))) (by rfl) (by rfl) (fun z => by cases z) (by decide)) (pe_ix (ix_tupK K) (pv 0) pe_int (fun _ _ => rfl)) (pe_dget2 hu (pv 1) (pe_ix (ix_tupK K) (pv 0) pe_int (fun _ _ => rfl)) pe_int ⟨rfl, rfl, rfl, rfl⟩) ⟨rfl, rfl, rfl, rfl⟩) (nomark _)) (pss_one (ps_ret pe_bl)) pss_nil)
    (C8.pss_cut (ps_par (i := 2) (j := 3) (by rfl) nd rfl rfl (by decide) rfl rfl (pa_cons (pe_ix (ix_tupK K) (pv 0) pe_int (fun _ _ => rfl)) (pa_cons (pe_ifExp (pt_cmpR op_gt (pe_callB (call_lenK K) rfl T.n_len PySem.boot_len (pa_cons (pv 0) pa_nil)) pe_int (nomark _)) (pe_ix (ix_tupK K) (pv 0) pe_int (fun _ _ => rfl)) pe_non) pa_nil)) (by rfl))
    (pss_cons (ps_if (pt_cmpR (op_inK K) (pv 2) (pe_tup (pa_cons pe_str (pa_cons pe_str pa_nil))) rfl) (C8.pss_cut (pset 4 nd (pe_ifExp (pt_cmpR op_eq (pv 2) pe_str (nomark _)) (pe_tup (pa_cons (pv 3) pa_nil)) (pv 3)))
      (pss_one (ps_ret (pe_and (pf c__law_are_many hr (by omega) rfl (pa_cons (pv 4) (pa_cons pe_int (pa_cons pe_int pa_nil)))) (pe_one (pe_cmpR (op_eqEK K hr) (pe_lc (own := [("_law_one_here", 5)]) rfl nd (pi_tupK K (pv 4)) (blkOk_by (own := [("_law_one_here", 5)]) (N := N__law_has_form) (sc := defScope s__law_has_form) (by decide +kernel)) (fun _ _ _ _ _ => (pgn 5 nd)) (fun _ _ _ _ _ => (pts_one (pt_not (pt_val (pf c__law_is_own hr (by omega) rfl (pa_cons (pv 5) pa_nil)))))) (fun _ _ _ _ _ => (pv 5))) (pe_lst pa_nil) (nomark _))))))) pss_nil)
    (pss_cons (ps_if (pt_cmpR op_eq (pv 2) pe_str (nomark _)) (pss_cons (pset 6 nd (pe_op op_sub (pe_op op_pow pe_int pe_int) pe_int))
      (pss_one (ps_ret (pe_and (pf c__law_among hr (by omega) rfl (pa_cons (pv 3) (pa_cons (pe_un un_neg (pv 6)) (pa_cons (pv 6) pa_nil)))) (pe_one (pf c__law_among hr (by omega) rfl (pa_cons (pe_ix (ix_tupK K) (pv 0) pe_int (fun _ _ => rfl)) (pa_cons (pv 3) (pa_cons (pe_callB (call_min2 rfl) rfl T.n_min bb_min (pa_cons (pv 6) (pa_cons (pe_op op_add (pv 3) pe_int) pa_nil))) pa_nil))))))))) pss_nil)
    (pss_cons (ps_if (pt_cmpR op_eq (pv 2) pe_str (nomark _)) (pss_cons (ps_if (PW.pt (pw_or (pt_not (pt_val (pf c__law_are_many hr (by omega) rfl (pa_cons (pv 3) (pa_cons pe_int (pa_cons pe_int pa_nil)))))) (pw_or1 (pt_cmpR (op_neEK K hr) (pe_lc (own := [("_law_pair", 7)]) rfl nd (pi_tupK K (pv 3)) (blkOk_by (own := [("_law_pair", 7)]) (N := N__law_has_form) (sc := defScope s__law_has_form) (by decide +kernel)) (fun _ _ _ _ _ => (pgn 7 nd)) (fun _ _ _ _ _ => (pts_one (pt_not (pt_val (pf c__law_are_many hr (by omega) rfl (pa_cons (pv 7) (pa_cons pe_int (pa_cons pe_int pa_nil)))))))) (fun _ _ _ _ _ => (pv 7))) (pe_lst pa_nil) (nomark _))))) (pss_one (ps_ret pe_bl)) pss_nil)
      (pss_one (ps_ret (pe_cmpR (op_eqEK K hr) (pe_lc (own := [("_law_weight", 8), ("_law_part", 9)]) rfl nd (pi_tupK K (pv 3)) (blkOk_by (own := [("_law_weight", 8), ("_law_part", 9)]) (N := N__law_has_form) (sc := defScope s__law_has_form) (by decide +kernel)) (fun _ _ _ _ _ => (pg_tupK (n := 2) K rfl (pgs_cons (pgn 8 nd) (pgs_cons (pgn 9 nd) pgs_nil)))) (fun _ _ _ _ _ => (pts_one (pt_not (pt_val (pf c__law_among hr (by omega) rfl (pa_cons (pv 8) (pa_cons pe_int (pa_cons pe_int pa_nil)))))))) (fun _ _ _ _ _ => (pv 8))) (pe_lst pa_nil) (nomark _))))) pss_nil)
    (pss_cons (ps_if (pt_cmpR op_eq (pv 2) pe_str (nomark _)) (pss_one (ps_ret (pf c__law_are_many hr (by omega) rfl (pa_cons (pv 3) (pa_cons pe_int (pa_cons pe_int pa_nil)))))) pss_nil)
    (pss_cons (ps_if (pt_cmpR op_eq (pv 2) pe_str (nomark _)) (pss_one (ps_ret (pe_and (pf c__law_among hr (by omega) rfl (pa_cons (pv 3) (pa_cons pe_int (pa_cons pe_int pa_nil)))) (pe_one (pf c__law_among hr (by omega) rfl (pa_cons (pe_ix (ix_tupK K) (pv 0) pe_int (fun _ _ => rfl)) (pa_cons (pv 3) (pa_cons pe_int pa_nil)))))))) pss_nil)
    (pss_cons (ps_if (pt_cmpR op_eq (pv 2) pe_str (nomark _)) (pss_one (ps_ret (pe_and (pe_callB (call_isDK K) rfl T.n_isinstance bb_isinstance (pa_cons (pv 3) (pa_cons (pty (n := "str") rfl T.n_str bt_str) pa_nil))) (pe_one (pe_cmpR (op_inK K) (pv 3) (pe_split pe_str pe_str) rfl))))) pss_nil)
    (pss_cons (ps_if (pt_cmpR op_eq (pv 2) pe_str (nomark _)) (pss_cons (pset 10 nd (pe_split pe_str pe_str))
      (pss_one (ps_ret (pe_and (pe_callB (call_isDK K) rfl T.n_isinstance bb_isinstance (pa_cons (pv 3) (pa_cons (pty (n := "str") rfl T.n_str bt_str) pa_nil))) (pe_and (pe_cmpR (op_inK K) (pv 3) (pv 10) rfl) (pe_one (pf c__law_among hr (by omega) rfl (pa_cons (pe_ix (ix_tupK K) (pv 0) pe_int (fun _ _ => rfl)) (pa_cons pe_int (pa_cons pe_int pa_nil)))))))))) pss_nil)
    (pss_one (ps_ret (pe_ifExp (pt_cmpR op_eq (pv 2) pe_str (nomark _)) (pf c__law_among hr (by omega) rfl (pa_cons (pv 3) (pa_cons pe_int (pa_cons pe_int pa_nil)))) (pe_or (pe_cmpR op_eq (pv 2) pe_str (nomark _)) (pe_one (pf c__law_is_name hr (by omega) rfl (pa_cons (pv 3) pa_nil))))))))))))))))), ?_⟩
  obtain ⟨p, xs, rfl, ep, hx⟩ := hd.tup_inv
  obtain ⟨x0, e0, r0⟩ := hx.get (i := 0) (d := .str w) rfl
  obtain rfl := rep_str r0
  intro d1 hd1
  have m1 : mergeK [] (kvW lensA) = kvW lensA := by rfl
  have m2 : mergeK [] (kvW lensB) = kvW lensB := by rfl
  refine ⟨upd_same, kvW lensA, rfl, by decide, ?_⟩
  rw [m1]
  have s1 : Same H (upd (upd H d1 (.dK [])) d1 (.dK (kvW lensA))) := ((Same.refl H).new hd1).put hd1
  have ed1 : (upd (upd H d1 (.dK [])) d1 (.dK (kvW lensA))) d1 = some (.dK (kvW lensA)) := upd_same
  generalize (upd (upd H d1 (.dK [])) d1 (.dK (kvW lensA))) = H1 at *
  refine ⟨_, rfl, .ref p, xs.length, rfl, .inr ⟨xs, sqt (s1 _ _ ep), rfl⟩, ?_⟩
  intro d2 hd2
  refine ⟨upd_same, kvW lensB, rfl, by decide, ?_⟩
  rw [m2]
  have s2 : Same H1 (upd (upd H1 d2 (.dK [])) d2 (.dK (kvW lensB))) := ((Same.refl H1).new hd2).put hd2
  have ed2 : (upd (upd H1 d2 (.dK [])) d2 (.dK (kvW lensB))) d2 = some (.dK (kvW lensB)) := upd_same
  generalize (upd (upd H1 d2 (.dK [])) d2 (.dK (kvW lensB))) = H2 at *
  have s02 := s1.trans s2
  have ed12 := s2 _ _ ed1
  have ep2 := s02 _ _ ep
  refine ⟨d2, rfl, .inl ⟨_, .inl ed2⟩, _, rfl, p, xs, 0, _, rfl, rfl, sqt ep2, atI_nat (j := 0) e0, _, rfl, d1, rfl, .inl ⟨_, .inl ed12⟩, _, rfl, p, xs, 0, _, rfl, rfl, sqt ep2, atI_nat (j := 0) e0, _, DGet.k (k := .inr (S w)) ed12, _, DGet.k (k := .inr (S w)) ed2, ?_⟩
  rw [lens_law, hx.1]
  refine ⟨rfl, _, rfl, ?_⟩
  rw [show (D.str w :: args).length = args.length + 1 from rfl]
  have hfe : hf (.tup (.str w :: args)) = (decide (args.length + 1 = lenOf w) && hfW w args) := rfl
  rw [hfe] at k
  by_cases en : ¬ args.length + 1 = lenOf w
  · rw [decide_eq_false (show ¬ V.int ((args.length + 1 : Nat) : Int) = V.int (lenOf w : Int) from fun z => by have := V.int.inj z; omega)]
    rw [decide_eq_false en, Bool.false_and] at k
    exact iteT (k _ s02)
  have en := Classical.not_not.mp en
  rw [decide_eq_true (show V.int ((args.length + 1 : Nat) : Int) = V.int (lenOf w : Int) from congrArg V.int (by omega))]
  rw [decide_eq_true en, Bool.true_and] at k
  have arg : ∀ i, i < args.length → ∃ x a, xs[i + 1]? = some x ∧ Rep H x a ∧ args.getD i .non = a := fun i hi => by
    obtain ⟨x, e, r⟩ := hx.get (i := i + 1) (d := args[i]) (by rw [List.getElem?_cons_succ]; exact List.getElem?_eq_getElem hi)
    refine ⟨x, args[i], e, r, ?_⟩
    (rw [List.getD_eq_getElem?_getD, List.getElem?_eq_getElem hi])
    rfl
  have hl : xs.length = args.length + 1 := hx.1
  refine iteF ⟨fun σ3 H3 => ∃ x1, σ3 = [some (.ref p), some (.ref d1), some (.str (S w)), some x1, none, none, none, none, none, none, none] ∧ H2 = H3 ∧ Rep H2 x1 (args.getD 0 .non), ?_, ?_⟩
  · refine ⟨_, rfl, p, xs, 0, _, rfl, rfl, sqt ep2, atI_nat (j := 0) e0, ?_⟩
    refine ⟨_, rfl, .ref p, xs.length, rfl, .inr ⟨xs, sqt ep2, rfl⟩, (xs.length : Int), 1, rfl, rfl, _, rfl, ?_⟩
    by_cases h1 : 1 < xs.length
    · obtain ⟨x, a, e, r, ea⟩ := arg 0 (by omega)
      rw [decide_eq_true (show (1 : Int) < (xs.length : Int) by omega)]
      exact iteT ⟨_, rfl, p, xs, 1, x, rfl, rfl, sqt ep2, atI_nat (j := 1) e, _, _, rfl, x, rfl, rfl, by rw [ea]; exact r.same s02⟩
    · rw [decide_eq_false (show ¬ (1 : Int) < (xs.length : Int) by omega)]
      have : args = [] := List.eq_nil_of_length_eq_zero (by omega)
      exact iteF ⟨_, _, rfl, .non, rfl, rfl, by rw [this]; exact .non⟩
  rintro σ3 H3 ⟨x1, rfl, rfl, r1⟩
  generalize ha1 : args.getD 0 .non = a1 at *
  have arg2 : ∀ i, i < args.length → ∃ x a, xs[i + 1]? = some x ∧ Rep H2 x a ∧ args.getD i .non = a := fun i hi => by
    obtain ⟨x, a, e, r, ea⟩ := arg i hi
    exact ⟨x, a, e, r.same s02, ea⟩
  clear arg
  have hd2 := hd.same s02
  clear m1 m2 ed1 ed2 ed12
  refine ⟨_, rfl, lsz, fun t ht => ⟨t, _, rfl, .inr (sqt upd_same), rfl, rfl, _, rfl, ?_⟩⟩
  have s3 := s02.new (o := .tup [.str "just", .str "some"]) ht
  have s23 := (Same.refl H2).new (o := .tup [.str "just", .str "some"]) ht
  have e7 : inV (.str (S w)) [V.str "just", V.str "some"] = decide (w ∈ [W "just", W "some"]) := inV_W w ["just", "some"]
  rw [if_neg (by decide), e7]
  have r13 := r1.same s23
  have ep3 := s23 _ _ ep2
  have arg3 : ∀ i, i < args.length → ∃ x a, xs[i + 1]? = some x ∧ Rep (upd H2 t (.tup [.str "just", .str "some"])) x a ∧ args.getD i .non = a := fun i hi => by
    obtain ⟨x, a, e, r, ea⟩ := arg2 i hi
    exact ⟨x, a, e, r.same s23, ea⟩
  clear arg2
  generalize (upd H2 t (.tup [.str "just", .str "some"])) = H3 at *
  by_cases e8 : w ∈ [W "just", W "some"]
  · rw [decide_eq_true e8]
    have e9 : w = W "just" ∨ w = W "some" := by simpa using e8
    refine iteT ⟨fun σ4 H4 => ∃ y b, σ4 = [some (.ref p), some (.ref d1), some (.str (S w)), some x1, some y, none, none, none, none, none, none] ∧ Same H3 H4 ∧ Rep H4 y b ∧ hfW w args = somesOk b, ?_, ?_⟩
    · refine ⟨_, rfl, rfl, _, rfl, ?_⟩
      rw [dstr w "just"]
      by_cases ej : w = W "just"
      · rw [decide_eq_true ej]
        refine iteT ⟨_, rfl, lsz, fun t2 ht2 => ⟨.ref t2, .tup [a1], rfl, (Same.refl _).new ht2, ?_, ?_⟩⟩
        · exact .tup upd_same rfl (Reps.cons (r13.same ((Same.refl _).new ht2)) Reps.nil).2
        · have : hfW w args = own a1 := by
            rw [← ha1]
            subst ej
            rfl
          rw [this, somesOk_tup]
          show own a1 = (true && (own a1 && true))
          rw [Bool.and_true, Bool.true_and]
      · rw [decide_eq_false ej]
        have es : w = W "some" := by rcases e9 with e | e; exact absurd e ej; exact e
        refine iteF ⟨_, rfl, x1, a1, rfl, Same.refl _, r13, ?_⟩
        rw [← ha1]
        subst es
        rfl
    rintro σ4 H4 ⟨y, b, rfl, s4, ry, eh⟩
    rw [eh] at k
    refine ⟨_, rfl, y, b, 1, 9, rfl, ry, fun H5 s5 => ⟨_, rfl, ?_⟩⟩
    have s05 := (s3.trans s4).trans s5
    cases em : mny 1 9 b with
    | false =>
      have : somesOk b = false := by
        cases b <;> first | rfl | (rw [somesOk_tup, em, Bool.false_and])
      rw [this] at k
      exact iteF (k _ s05)
    | true =>
      obtain ⟨ds, rfl, l1, l2⟩ := mny_inv em
      obtain ⟨c, ys, rfl, ec, hy⟩ := ry.tup_inv
      have hy1 := hy.1
      have ec5 := s5 _ _ ec
      refine iteT ⟨_, rfl, c, rfl, ⟨ys, sqt ec5⟩, fun C hC => lc_it (walk_tup (xs := ys)) (CEv own ds H5 C) (cev_start hC) (fun i H' _ pv => sqt (pv.1 _ _ ec5)) ?_ ?_⟩
      · rintro i x H6 H7 hi pv ⟨rfl, hxi⟩
        obtain ⟨di, hdi, ri⟩ := hy.getV hxi
        refine ⟨rfl, x, rfl, x, di, rfl, (ri.same s5).same pv.1, fun H8 s8 => ⟨_, rfl, ?_⟩⟩
        cases eo : own di with
        | true => exact iteF (cev_keep hdi eo pv s8)
        | false => exact iteT ⟨x, rfl, cev_add hC (by omega) hdi eo pv s8⟩
      · rintro H6 pv
        obtain ⟨s6, zs, ez, hz⟩ := cev_fin (by have := hy.1; omega) pv
        refine ⟨lsz, fun q hq => ⟨C, q, zs, rfl, rfl, sql (up_ne ez hq), sql upd_same, ?_⟩⟩
        have : (zs.isEmpty != false) = somesOk (.tup ds) := by
          rw [somesOk_tup, em, Bool.true_and, hz]
          cases ds.all own <;> rfl
        rw [this]
        exact k _ ((s05.trans s6).new hq)
  · rw [decide_eq_false e8]
    have e9 : ¬ (w = W "just" ∨ w = W "some") := by simpa using e8
    have nj : w ≠ W "just" := fun e => e9 (.inl e)
    have nso : w ≠ W "some" := fun e => e9 (.inr e)
    refine iteF ⟨_, rfl, rfl, _, rfl, ?_⟩
    rw [dstr w "from"]
    by_cases e1 : w = W "from"
    · rw [decide_eq_true e1]
      have n2 : lenOf w = 3 := by rw [e1]; decide +kernel
      obtain ⟨x2, a2, ex2, ra2, ea2⟩ := arg3 1 (by omega)
      have eh : hfW w args = span a1 a2 := by
        rw [← ha1, ← ea2]
        subst e1
        rfl
      rw [eh] at k
      refine iteT ⟨_, _, rfl, rfl, ⟨by decide, by decide, by decide⟩, _, 1, rfl, rfl, _, rfl, _, rfl, _, rfl, _, rfl, x1, a1, _, _, rfl, r13, fun H4 s4 => ⟨_, rfl, ?_⟩⟩
      have k4 := k _ (s3.trans s4)
      rw [span_law] at k4
      cases em : amg (-((10 : Int) ^ (30 : Int).toNat - 1)) ((10 : Int) ^ (30 : Int).toNat - 1) a1 with
      | false =>
        rw [em, Bool.false_and] at k4
        exact iteF k4
      | true =>
        rw [em, Bool.true_and] at k4
        obtain ⟨i, rfl, _⟩ := amg_inv em
        cases r13
        have e5 : span (.int i) a2 = amg i (if i + 99 < (10 : Int) ^ (30 : Int).toNat - 1 then i + 99 else (10 : Int) ^ (30 : Int).toNat - 1) a2 := by
          rw [span_law, em, Bool.true_and]
        rw [e5] at k
        exact iteT ⟨_, rfl, p, xs, 2, x2, rfl, rfl, sqt (s4 _ _ ep3), atI_nat (j := 2) ex2, _, rfl, _, rfl, _, rfl, i, 99, rfl, rfl, _, _, rfl, x2, a2, i, _, rfl, ra2.same s4, fun H5 s5 => k _ ((s3.trans s4).trans s5)⟩
    rw [decide_eq_false e1]
    refine iteF ⟨_, rfl, rfl, _, rfl, ?_⟩
    rw [dstr w "mix"]
    by_cases e2 : w = W "mix"
    · rw [decide_eq_true e2]
      have eh : hfW w args = pairsOk a1 := by
        rw [← ha1]
        subst e2
        rfl
      rw [eh] at k
      refine iteT ⟨_, rfl, x1, a1, 1, 6, rfl, r13, fun H4 s4 => ⟨_, rfl, ?_⟩⟩
      cases em : mny 1 6 a1 with
      | false =>
        have : pairsOk a1 = false := by
          cases a1 <;> first | rfl | (rw [pairsOk_tup, em, Bool.false_and])
        rw [this] at k
        exact iteT (k _ (s3.trans s4))
      | true =>
      obtain ⟨ds, rfl, l1, l2⟩ := mny_inv em
      obtain ⟨c, ys, rfl, ec, hy⟩ := r13.tup_inv
      have hy1 := hy.1
      have ec4 := s4 _ _ ec
      rw [pairsOk_tup, em, Bool.true_and] at k
      refine iteF ⟨_, rfl, c, rfl, ⟨ys, sqt ec4⟩, fun C hC => lc_it (walk_tup (xs := ys)) (CEv (mny 2 2) ds H4 C) (cev_start hC) (fun i H' _ pv => sqt (pv.1 _ _ ec4)) ?_ ?_⟩
      · rintro i x H6 H7 hi pv ⟨rfl, hxi⟩
        obtain ⟨di, hdi, ri⟩ := hy.getV hxi
        refine ⟨rfl, x, rfl, x, di, 2, 2, rfl, (ri.same s4).same pv.1, fun H8 s8 => ⟨_, rfl, ?_⟩⟩
        cases eo : mny 2 2 di with
        | true => exact iteF (cev_keep hdi eo pv s8)
        | false => exact iteT ⟨x, rfl, cev_add hC (by omega) hdi eo pv s8⟩
      · rintro H6 pv
        obtain ⟨s6, zs, ez, hz⟩ := cev_fin (by have := hy.1; omega) pv
        refine ⟨lsz, fun q hq => ⟨C, q, zs, rfl, rfl, sql (up_ne ez hq), sql upd_same, _, rfl, ?_⟩⟩
        have s7 := (s4.trans s6).new (o := .lst []) hq
        rw [hz]
        cases ea : ds.all (mny 2 2) with
        | false =>
          have : ds.all pairOk = false := by
            cases e : ds.all pairOk with
            | false => rfl
            | true =>
              rw [List.all_eq_true] at e
              have : ds.all (mny 2 2) = true := List.all_eq_true.mpr fun d hd => by
                obtain ⟨i, b, rfl, _⟩ := pair_inv (e d hd)
                rfl
              rw [this] at ea
              cases ea
          rw [this] at k
          exact iteT (k _ (s3.trans s7))
        | true =>
          rw [List.all_eq_true] at ea
          have ec7 := s7 _ _ ec
          refine iteF ⟨_, rfl, c, rfl, ⟨ys, sqt ec7⟩, fun C2 hC2 => lc_it (walk_tup (xs := ys)) (CEv pairOk ds _ C2) (cev_start hC2) (fun i H' _ pv => sqt (pv.1 _ _ ec7)) ?_ ?_⟩
          · rintro i x H8 H9 hi pv8 ⟨rfl, hxi⟩
            obtain ⟨di, hdi, ri⟩ := hy.getV hxi
            obtain ⟨es, rfl, m1, m2⟩ := mny_inv (ea di (List.mem_of_getElem? hdi))
            obtain ⟨a, b, rfl⟩ := two_of (show es.length = 2 by omega)
            have s8 := s7.trans pv8.1
            obtain ⟨c2, y0, y1, rfl, ec2, ry0, ry1⟩ := tup2_inv (ri.same s8)
            refine ⟨c2, _, rfl, sqt ec2, rfl, y0, [y1], rfl, y1, [], rfl, rfl, rfl, _, rfl, y0, a, 1, 9, rfl, ry0, fun H10 s10 => ⟨_, rfl, ?_⟩⟩
            cases eo : amg 1 9 a with
            | true => exact iteF (cev_keep hdi eo pv8 s10)
            | false => exact iteT ⟨_, rfl, cev_add hC2 (by omega) hdi eo pv8 s10⟩
          · rintro H8 pv8
            obtain ⟨s8, zs2, ez2, hz2⟩ := cev_fin (by have := hy.1; omega) pv8
            refine ⟨lsz, fun q2 hq2 => ⟨C2, q2, zs2, rfl, rfl, sql (up_ne ez2 hq2), sql upd_same, ?_⟩⟩
            have : (zs2.isEmpty != false) = ds.all pairOk := by
              rw [hz2]
              cases ds.all pairOk <;> rfl
            rw [this]
            exact k _ (((s3.trans s7).trans s8).new hq2)
    rw [decide_eq_false e2]
    refine iteF ⟨_, rfl, rfl, _, rfl, ?_⟩
    rw [dstr w "all"]
    by_cases e3 : w = W "all"
    · rw [decide_eq_true e3]
      have eh : hfW w args = mny 0 6 a1 := by
        rw [← ha1]
        subst e3
        rfl
      rw [eh] at k
      exact iteT ⟨_, rfl, x1, a1, 0, 6, rfl, r13, fun H4 s4 => k _ (s3.trans s4)⟩
    rw [decide_eq_false e3]
    refine iteF ⟨_, rfl, rfl, _, rfl, ?_⟩
    rw [dstr w "row"]
    by_cases e4 : w = W "row"
    · rw [decide_eq_true e4]
      have n2 : lenOf w = 4 := by rw [e4]; decide +kernel
      obtain ⟨x2, a2, ex2, ra2, ea2⟩ := arg3 1 (by omega)
      have eh : hfW w args = rowOk a1 a2 := by
        rw [← ha1, ← ea2]
        subst e4
        rfl
      rw [eh] at k
      refine iteT ⟨_, rfl, x1, a1, 0, 6, rfl, r13, fun H4 s4 => ⟨_, rfl, ?_⟩⟩
      have k4 := k _ (s3.trans s4)
      cases em : amg 0 6 a1 with
      | false =>
        have : rowOk a1 a2 = false := by
          cases a1 <;> first | rfl | (show (amg 0 6 _ && _) = false; rw [em, Bool.false_and])
        rw [this] at k4
        exact iteF k4
      | true =>
        obtain ⟨i, rfl, _⟩ := amg_inv em
        cases r13
        have : rowOk (.int i) a2 = amg i 6 a2 := by
          show (amg 0 6 (.int i) && _) = _
          rw [em, Bool.true_and]
        rw [this] at k
        exact iteT ⟨_, rfl, p, xs, 2, x2, rfl, rfl, sqt (s4 _ _ ep3), atI_nat (j := 2) ex2, _, rfl, x2, a2, i, 6, rfl, ra2.same s4, fun H5 s5 => k _ ((s3.trans s4).trans s5)⟩
    rw [decide_eq_false e4]
    refine iteF ⟨_, rfl, rfl, _, rfl, ?_⟩
    rw [dstr w "turn"]
    by_cases e5 : w = W "turn"
    · rw [decide_eq_true e5]
      have eh : hfW w args = inW turnW a1 := by
        rw [← ha1]
        subst e5
        rfl
      rw [eh] at k
      refine iteT ⟨_, rfl, x1, a1, "str", rfl, by decide, r13, _, rfl, ?_⟩
      cases es : isTy "str" a1 with
      | false =>
        have : inW turnW a1 = false := by
          cases a1 <;> first | rfl | (simp [isTy] at es)
        rw [this] at k
        exact iteF (k H3 s3)
      | true =>
        obtain ⟨z, rfl⟩ := str_one es
        obtain rfl := rep_str r13
        refine iteT ⟨_, rfl, ⟨_, rfl⟩, _, _, rfl, rfl, by decide, by decide +kernel, fun q hq => ⟨q, _, rfl, .inl (sql upd_same), rfl, by decide +kernel, ?_⟩⟩
        rw [if_neg (by decide), show Txt.split (Str.ofString "neg double size total back sorted unlike head") (Str.ofString " ") = turnS.map Str.ofString by decide +kernel, List.map_map]
        rw [show inV (.str (S z)) (turnS.map (V.str ∘ Str.ofString)) = decide (z ∈ turnW) from inV_W z turnS]
        exact k _ (s3.new hq)
    rw [decide_eq_false e5]
    refine iteF ⟨_, rfl, rfl, _, rfl, ?_⟩
    rw [dstr w "keep"]
    by_cases e6 : w = W "keep"
    · rw [decide_eq_true e6]
      have n2 : lenOf w = 4 := by rw [e6]; decide +kernel
      obtain ⟨x2, a2, ex2, ra2, ea2⟩ := arg3 1 (by omega)
      have eh : hfW w args = (inW testW a1 && amg 0 3 a2) := by
        rw [← ha1, ← ea2]
        subst e6
        rfl
      rw [eh] at k
      refine iteT ⟨⟨_, rfl⟩, _, _, rfl, rfl, by decide, by decide +kernel, fun q hq => ⟨_, rfl, x1, a1, "str", rfl, by decide, r13.same ((Same.refl _).new hq), _, rfl, ?_⟩⟩
      have s4 := s3.new (o := .lst ((Txt.split (Str.ofString "even odd above name full rising unlike") (Str.ofString " ")).map V.str)) hq
      cases es : isTy "str" a1 with
      | false =>
        have : inW testW a1 = false := by
          cases a1 <;> first | rfl | (simp [isTy] at es)
        rw [this, Bool.false_and] at k
        exact iteF (k _ s4)
      | true =>
        obtain ⟨z, rfl⟩ := str_one es
        obtain rfl := rep_str r13
        refine iteT ⟨_, rfl, _, rfl, q, _, rfl, .inl (sql upd_same), rfl, by decide +kernel, _, rfl, ?_⟩
        rw [if_neg Bool.false_ne_true, show Txt.split (Str.ofString "even odd above name full rising unlike") (Str.ofString " ") = testS.map Str.ofString by decide +kernel, List.map_map]
        rw [show inV (.str (S z)) (testS.map (V.str ∘ Str.ofString)) = decide (z ∈ testW) from inV_W z testS]
        cases ez : decide (z ∈ testW) with
        | false =>
          have : inW testW (.str z) = false := ez
          rw [this, Bool.false_and] at k
          exact iteF (k _ (s3.new hq))
        | true =>
          have : inW testW (.str z) = true := ez
          rw [this, Bool.true_and] at k
          exact iteT ⟨_, rfl, p, xs, 2, x2, rfl, rfl, sqt (up_ne ep3 hq), atI_nat (j := 2) ex2, x2, a2, 0, 3, rfl, ra2.same ((Same.refl _).new hq), fun H5 s5 => k _ ((s3.new hq).trans s5)⟩
    rw [decide_eq_false e6]
    refine iteF ⟨_, rfl, rfl, _, rfl, ?_⟩
    rw [dstr w "grow"]
    by_cases e7 : w = W "grow"
    · rw [decide_eq_true e7]
      have eh : hfW w args = amg 0 3 a1 := by
        rw [← ha1]
        subst e7
        rfl
      rw [eh] at k
      exact iteT ⟨_, rfl, x1, a1, 0, 3, rfl, r13, fun H4 s4 => k _ (s3.trans s4)⟩
    rw [decide_eq_false e7]
    refine iteF ⟨_, rfl, rfl, _, rfl, ?_⟩
    rw [dstr w "again"]
    by_cases e8 : w = W "again"
    · rw [decide_eq_true e8]
      have eh : hfW w args = true := by
        subst e8
        rfl
      rw [eh] at k
      exact iteT (k _ s3)
    · rw [decide_eq_false e8]
      have eh : hfW w args = isName a1 := by
        rw [← ha1]
        unfold hfW leafOk
        rw [if_neg e2, if_neg e3, if_neg e4, if_neg e5, if_neg e6, if_neg e7, if_neg nj, if_neg nso, if_neg e1, if_neg e8]
        split <;> rfl
      rw [eh] at k
      exact iteF ⟨_, rfl, x1, a1, rfl, r13, fun H4 s4 => k _ (s3.trans s4)⟩
end
end K6
set_option maxHeartbeats 4000001
namespace K6
open L2 PySem PySem.Spec PyProof.Rows
def nmV (ns : Nms) : List V := ns.map fun n => V.str (S n)
def GIx (L : Addr) (H : Hp) (v : V) (it : List Nat × GB) : Prop := ∃ p wv pv na, v = .ref p ∧ H p = some (.tup [wv, pv, .ref na, .bl it.2.2.2]) ∧ na ≠ L ∧ H na = some (.lst (nmV it.2.2.1)) ∧ WayR H wv it.1 ∧ Rep H pv it.2.1
def Kx (L : Addr) (H H' : Hp) : Prop := ∀ b u, b ≠ L → H b = some u → H' b = some u
theorem Kx.of {L : Addr} {H H' : Hp} (s : Same H H') : Kx L H H' := fun b u _ e => s b u e
theorem kx_put {L : Addr} {H : Hp} {o : HO} : Kx L H (upd H L o) := fun b u n e => by rw [upd_ne n]; exact e
theorem Kx.trans {L : Addr} {H H1 H2 : Hp} (a : Kx L H H1) (b : Kx L H1 H2) : Kx L H H2 := fun c u n e => b c u n (a c u n e)
theorem GIx.kp {L : Addr} {H H' : Hp} {v : V} {it : List Nat × GB} (r : GIx L H v it) (g : Gr H H') (k : Kx L H H') : GIx L H' v it := by
  obtain ⟨p, wv, pv, na, e, hp, hn, en, hw, hd⟩ := r
  exact ⟨p, wv, pv, na, e, g.tup _ _ hp, hn, k _ _ hn en, hw.gr g, hd.gr g⟩
def LIx (H : Hp) (v : V) (it : List Nat × GB) : Prop := ∃ q wv pv na, v = .ref q ∧ H q = some (.lst [wv, pv, .ref na, .bl it.2.2.2]) ∧ H na = some (.lst (nmV it.2.2.1)) ∧ WayR H wv it.1 ∧ Rep H pv it.2.1
def CLx (B : List (List Nat × GB)) (H1 : Hp) (D : Addr) (i : Nat) (H : Hp) : Prop := Same H1 H ∧ ∃ ys, H D = some (.lst ys) ∧ ys.Nodup ∧ All2 (fun v it => v ≠ .ref D ∧ ∃ q wv pv na, v = .ref q ∧ H1 q = none ∧ H q = some (.lst [wv, pv, .ref na, .bl it.2.2.2]) ∧ H1 na = some (.lst (nmV it.2.2.1)) ∧ WayR H wv it.1 ∧ Rep H1 pv it.2.1) ys (B.take i)
section
variable {B : List (List Nat × GB)} {H1 : Hp} {D : Addr}
theorem clx_start (hD : H1 D = none) : CLx B H1 D 0 (upd H1 D (.lst [])) := ⟨(Same.refl _).new hD, [], upd_same, List.nodup_nil, All2.nil⟩
theorem clx_fin (hD : H1 D = none) {i : Nat} {H H4 : Hp} {q na : Addr} {it : List Nat × GB} {wv pv : V} (hi : i ≤ 1000) (hk : B[i]? = some it) (p : CLx B H1 D i H) (s : Same H H4) (hq : H4 q = none) (hn : H1 na = some (.lst (nmV it.2.2.1))) (hw : WayR H4 wv it.1) (hp : Rep H1 pv it.2.1) :
    ∃ acc, (upd H4 q (.lst [wv, pv, .ref na, .bl it.2.2.2])) D = some (.lst acc) ∧ acc.length < sizeLine ∧ CLx B H1 D (i + 1) (upd (upd H4 q (.lst [wv, pv, .ref na, .bl it.2.2.2])) D (.lst (acc ++ [.ref q]))) := by
  obtain ⟨s1, ys, ey, hnd, a⟩ := p
  have ey4 := s _ _ ey
  have e5 : (upd H4 q (.lst [wv, pv, .ref na, .bl it.2.2.2])) D = some (.lst ys) := up_ne ey4 hq
  have nq : q ≠ D := Ne.symm (ne_of_none ey4 hq)
  refine ⟨ys, e5, sizes ?_, ((s1.trans s).new hq).put hD, ys ++ [.ref q], upd_same, ?_, ?_⟩
  · rw [a.1, List.length_take]
    omega
  · rw [List.nodup_append]
    refine ⟨hnd, by simp, fun v hv w hw2 => ?_⟩
    rw [List.mem_singleton] at hw2
    subst hw2
    obtain ⟨j, hj, ej⟩ := List.mem_iff_getElem.mp hv
    obtain ⟨it', _, _, q', _, _, _, eq', _, e', _⟩ := a.getV (List.getElem?_eq_getElem hj)
    intro z
    rw [ej, z] at eq'
    cases eq'
    have := s _ _ e'
    rw [hq] at this
    cases this
  · rw [List.take_succ, hk]
    have g : Gr H4 (upd (upd H4 q (.lst [wv, pv, .ref na, .bl it.2.2.2])) D (.lst (ys ++ [.ref q]))) := (Gr.of ((Same.refl _).new hq)).trans (gr_put e5)
    refine (a.mono fun v it' r => ?_).app (All2.one ⟨fun z => nq (V.ref.inj z), q, wv, pv, na, rfl, (s1.trans s).free hq, ?_, hn, hw.gr g, hp⟩)
    · obtain ⟨r1, q', wv', pv', na', rfl, f', e', en', w', p'⟩ := r
      refine ⟨r1, q', wv', pv', na', rfl, f', ?_, en', w'.gr ((Gr.of s).trans g), p'⟩
      rw [upd_ne (fun z => r1 (by rw [z])), upd_ne (ne_of_none (s _ _ e') hq)]
      exact s _ _ e'
    · rw [upd_ne nq, upd_same]
theorem clx_done {n : Nat} {H : Hp} (hn : B.length ≤ n) (p : CLx B H1 D n H) : Same H1 H ∧ ∃ ys, H D = some (.lst ys) ∧ ys.Nodup ∧ All2 (fun v it => ∃ q wv pv na, v = .ref q ∧ q ≠ D ∧ H1 q = none ∧ H q = some (.lst [wv, pv, .ref na, .bl it.2.2.2]) ∧ H1 na = some (.lst (nmV it.2.2.1)) ∧ WayR H wv it.1 ∧ Rep H1 pv it.2.1) ys B := by
  obtain ⟨s1, ys, ey, hnd, a⟩ := p
  rw [List.take_of_length_le hn] at a
  refine ⟨s1, ys, ey, hnd, a.mono fun v it r => ?_⟩
  obtain ⟨r1, q', wv', pv', na', e0, f', e', en', w', p'⟩ := r
  exact ⟨q', wv', pv', na', e0, fun z => r1 (by rw [e0, z]), f', e', en', w', p'⟩
end
def sp_place : Sp := fun vs H Q _ => ∃ v d, vs = [v] ∧ Rep H v d ∧ ∀ H' r, Same H H' → WayO H' r (gw d) → Q r H'
section
variable {P : Program}
variable {w : World} {K : PySem.W.Frag} {mg : Str → Option Value} {base : Heap}
abbrev s__law_place : Stmt := top 112
abbrev N__law_place : List Str := ["_law_thing_here", "_law_left", "_law_met", "_law_way", "_law_part", "_law_names", "_law_grows", "_law_some", "_law_k", "_law_inner"]
theorem sc__law_place : FnScope N__law_place ["_law_thing_here"] (defScope s__law_place) := ⟨rfl, rfl, rfl, by decide +kernel, rfl, by decide +kernel, by decide +kernel⟩
theorem cl__law_place (F : Df K mg "_law_place" s__law_place ["_law_thing_here"]) (T : Tx mg) (c__law_has_form : Cl P w K mg base 4 "_law_has_form" sp_lform) (c__law_own : Cl P w K mg base 1 "_law_own" sp_own_parts) : Cl P w K mg base 5 "_law_place" sp_place := by
  refine F.cl sc__law_place (fun vs H Q E h => by obtain ⟨_, _, rfl, _⟩ := h; rfl) (fun f cdv A outer s H vs Q E hr h => ?_)
  have nd := sc__law_place.nd
  obtain ⟨v, d, rfl, hd, k⟩ := h
  refine ⟨_, (pss_cons (pset 1 nd (pe_lst (pa_cons (pe_tup (pa_cons (pe_tup pa_nil) (pa_cons (pv 0) (pa_cons (pe_lst pa_nil) (pa_cons pe_bl pa_nil))))) pa_nil)))
    (pss_cons (pset 2 nd pe_int)
    (pss_cons (ps_while (passes_of rfl) (pt_cmpR (op_neEK K hr) (pv 1) (pe_lst pa_nil) (nomark _)) (pss_cons (ps_asg (pe_bm0 PySem.F.plainAttrs_list PySem.F.slot_list_pop PySem.F.type_list_pop mt_pop (pv 1)) (pg_tupK (n := 4) K rfl (pgs_cons (pgn 3 nd) (pgs_cons (pgn 4 nd) (pgs_cons (pgn 5 nd) (pgs_cons (pgn 6 nd) pgs_nil))))))
      (pss_cons (ps_if (PW.pt (pw_or (pt_cmpR op_eq (pv 2) pe_int (nomark _)) (pw_or (pt_cmpR op_eq (pe_callB (call_lenK K) rfl T.n_len PySem.boot_len (pa_cons (pv 3) pa_nil)) pe_int (nomark _)) (pw_or (pt_not (pt_val (pe_callB (call_isDK K) rfl T.n_isinstance bb_isinstance (pa_cons (pv 4) (pa_cons (pty (n := "tuple") rfl T.n_tuple bt_tuple) pa_nil))))) (pw_or (pt_cmpR op_eq (pe_callB (call_lenK K) rfl T.n_len PySem.boot_len (pa_cons (pv 4) pa_nil)) pe_int (nomark _)) (pw_or1 (pt_not (pt_val (pe_callB (call_isDK K) rfl T.n_isinstance bb_isinstance (pa_cons (pe_ix (ix_tupK K) (pv 4) pe_int (fun _ _ => rfl)) (pa_cons (pty (n := "str") rfl T.n_str bt_str) pa_nil))))))))))) (pss_one (ps_ret (pv 3))) pss_nil)
      (pss_cons (ps_if (pt_not (pt_val (pf c__law_has_form hr (by omega) rfl (pa_cons (pv 4) pa_nil)))) (pss_one (ps_ret (pv 3))) pss_nil)
      (C8.pss_cut (ps_if (PW.pt (pw_or (PW.pt (pw_and (pt_cmpR (op_inK K) (pe_ix (ix_tupK K) (pv 4) pe_int (fun _ _ => rfl)) (pe_tup (pa_cons pe_str (pa_cons pe_str (pa_cons pe_str pa_nil)))) rfl) (pw_and1 (pt_cmpR (op_notInK K) (pe_ix (ix_tupK K) (pv 4) pe_int (fun _ _ => rfl)) (pv 5) rfl)))) (pw_or1 (PW.pt (pw_and (pt_cmpR op_eq (pe_ix (ix_tupK K) (pv 4) pe_int (fun _ _ => rfl)) pe_str (nomark _)) (pw_and1 (pt_not (pt_val (pv 6))))))))) (pss_one (ps_ret (pv 3))) pss_nil)
      (pss_cons (pset 2 nd (pe_op op_add (pv 2) pe_int))
      (pss_cons (pset 7 nd (pe_lc (own := [("_law_k", 8), ("_law_inner", 9)]) rfl nd (pi_enum (by rfl) T.n_enumerate (pa_cons (pf c__law_own hr (by omega) rfl (pa_cons (pv 4) pa_nil)) pa_nil)) (blkOk_by (own := [("_law_k", 8), ("_law_inner", 9)]) (N := N__law_place) (sc := defScope s__law_place) (by decide +kernel)) (fun _ _ _ _ _ => (pg_tupK (n := 2) K rfl (pgs_cons (pgn 8 nd) (pgs_cons (pgn 9 nd) pgs_nil)))) (fun _ _ _ _ _ => pts_nil) (fun _ _ _ _ _ => (pe_lst (pa_cons (pe_op op_catW (pv 3) (pe_tup (pa_cons (pv 8) pa_nil))) (pa_cons (pv 9) (pa_cons (pv 5) (pa_cons (pv 6) pa_nil))))))))
      (C8.pss_cut (ps_if (pt_cmpR op_eq (pe_ix (ix_tupK K) (pv 4) pe_int (fun _ _ => rfl)) pe_str (nomark _)) (pss_one (ps_asg (pe_op op_cat (pv 5) (pe_lst (pa_cons (pe_ix (ix_tupK K) (pv 4) pe_int (fun _ _ => rfl)) pa_nil))) (pg_sub (pe_ix (ix_listK K) (pv 7) pe_int (fun _ _ => rfl)) pe_int set_list))) pss_nil)
      (C8.pss_cut (ps_if (pt_cmpR op_eq (pe_ix (ix_tupK K) (pv 4) pe_int (fun _ _ => rfl)) pe_str (nomark _)) (pss_one (ps_asg pe_bl (pg_sub (pe_ix (ix_listK K) (pv 7) pe_int (fun _ _ => rfl)) pe_int set_list))) pss_nil)
      (pss_one (pset 1 nd (pe_op op_cat (pv 1) (pe_lc (own := [("_law_k", 8)]) rfl nd (pi_range1 rfl T.n_range (pa_cons (pe_callB (call_lenK K) rfl T.n_len PySem.boot_len (pa_cons (pv 7) pa_nil)) pa_nil)) (blkOk_by (own := [("_law_k", 8)]) (N := N__law_place) (sc := defScope s__law_place) (by decide +kernel)) (fun _ _ _ _ _ => (pgn 8 nd)) (fun _ _ _ _ _ => pts_nil) (fun _ _ _ _ _ => (pe_callTy (call_tupK K) rfl T.n_tuple bt_tuple (pa_cons (pe_ix (ix_listK K) (pv 7) (pe_op op_sub (pe_op op_sub (pe_callB (call_lenK K) rfl T.n_len PySem.boot_len (pa_cons (pv 7) pa_nil)) pe_int) (pv 8)) (fun _ _ => rfl)) pa_nil))))))))))))))))
    (pss_one (ps_ret pe_non))))), ?_⟩
  refine ⟨lsz, fun a0 h0 => ⟨_, rfl, lsz, fun b0 g0 => ⟨lsz, fun a1 h1 => ⟨lsz, fun L hL => ?_⟩⟩⟩⟩
  have sA : Same H (upd (upd (upd H a0 (.tup [])) b0 (.lst [])) a1 (.tup [.ref a0, v, .ref b0, .bl false])) := (((Same.refl _).new h0).new g0).new h1
  have s0 : Same H (upd (upd (upd (upd H a0 (.tup [])) b0 (.lst [])) a1 (.tup [.ref a0, v, .ref b0, .bl false])) L (.lst [.ref a1])) := sA.new hL
  have nL : H L = none := s0.free_of sA hL
  refine ⟨fun m σ' H' => ∃ (L : Addr) (its : List (List Nat × GB)) (xs : List V) (w p n g so nu ni : Option V), σ' = [some v, some (.ref L), some (.int ((24 - m : Nat) : Int)), w, p, n, g, so, nu, ni] ∧ m ≤ 24 ∧ Same H H' ∧ H L = none ∧ H' L = some (.lst xs) ∧
    All2 (GIx L H') xs.reverse its ∧ xs.length ≤ 1 + (24 - m) * 6 ∧ (∀ it ∈ its, it.1.length ≤ 6 ∧ it.2.2.1.length ≤ it.1.length) ∧ sw okG scG m its = gw d, ⟨24, L, [([], d, [], false)], [.ref a1], none, none, none, none, none, none, none, rfl, Nat.le_refl _, s0, nL, upd_same, ?_, by simp, by simp, rfl⟩, ?_⟩
  · refine All2.one ⟨a1, .ref a0, v, b0, rfl, up_ne upd_same hL, ne_of_none (up_ne upd_same h1) hL, ?_, ⟨a0, rfl, ?_⟩, hd.same s0⟩
    · exact up_ne (up_ne upd_same h1) hL
    · exact up_ne (up_ne (up_ne upd_same g0) h1) hL
  rintro m σ' H' ⟨L, its, xs, w, p, n, g, so, nu, ni, rfl, hmm, s1, nL, eL, ha, hz, hnm, hsw⟩
  refine ⟨_, rfl, lsz, fun q hq => ⟨L, q, xs, rfl, rfl, sql (up_ne eL hq), sql upd_same, _, rfl, ?_⟩⟩
  have sq : Same H (upd H' q (.lst [])) := s1.new hq
  cases its with
  | nil =>
    have e : xs = [] := by
      have := ha.nil_right
      simpa using this
    subst e
    refine iteF (k _ .non sq ?_)
    rw [← hsw]
    cases m <;> rfl
  | cons it its =>
    obtain ⟨ys, x, rfl⟩ := snoc_of (show xs ≠ [] from fun e => by
        rw [e] at ha
        have := ha.1
        simp at this)
    have ha2 : All2 (GIx L H') (x :: ys.reverse) (it :: its) := by
      rw [List.reverse_append] at ha
      exact ha
    have hx := ha2.head
    have hys := ha2.tail
    have eq : ((ys ++ [x]).isEmpty != true) = true := by cases ys <;> rfl
    rw [eq]
    refine iteT ⟨_, fun _ _ h => h, ?_⟩
    refine ⟨_, rfl, .inl ⟨rfl, _, sql (up_ne eL hq)⟩, L, _, x, rfl, rfl, up_ne eL hq, by simp, ?_⟩
    rw [List.dropLast_concat]
    have s2 : Same H (upd (upd H' q (.lst [])) L (.lst ys)) := sq.put nL
    have g2 : Gr H' (upd (upd H' q (.lst [])) L (.lst ys)) := (Gr.of ((Same.refl H').new hq)).trans (gr_put (up_ne eL hq))
    have k2 : Kx L H' (upd (upd H' q (.lst [])) L (.lst ys)) := (Kx.of ((Same.refl H').new hq)).trans kx_put
    have eL2 : (upd (upd H' q (.lst [])) L (.lst ys)) L = some (.lst ys) := upd_same
    generalize (upd (upd H' q (.lst [])) L (.lst ys)) = H2 at *
    obtain ⟨pa, wv, pv, na, rfl, hpa, hna, ena, hw2, hp2⟩ := hx.kp g2 k2
    obtain ⟨way, di, ns, gr⟩ := it
    refine ⟨pa, [wv, pv, .ref na, .bl gr], rfl, sqt hpa, rfl, wv, _, rfl, pv, _, rfl, .ref na, _, rfl, .bl gr, [], rfl, rfl, ?_⟩
    obtain ⟨wa, rfl, ewa⟩ := id hw2
    have out : (m = 0 ∨ 5 < way.length ∨ okG (di, ns, gr) = false) → ∀ H3, Same H2 H3 → Q (.ref wa) H3 := fun c H3 s3 => by
      refine k H3 _ (s2.trans s3) ?_
      rw [← hsw]
      have e : sw okG scG m ((way, di, ns, gr) :: its) = some way := by
        cases m with
        | zero => rfl
        | succ m => exact if_pos (by simpa using c)
      rw [e]
      exact hw2.gr (.of s3)
    obtain ⟨h6, hnm0⟩ := hnm _ List.mem_cons_self
    have h6 : way.length ≤ 6 := h6
    (refine ⟨_, rfl, rfl, _, rfl, ?_⟩)
    cases e1 : decide (V.int ((24 - m : Nat) : Int) = V.int 24) with
    | true =>
      exact iteT ⟨_, rfl, out (.inl (by have := V.int.inj (of_decide_eq_true e1); omega)) H2 (Same.refl _)⟩
    | false =>
    have hm0 : m ≠ 0 := fun z => by
      subst z
      exact of_decide_eq_false e1 rfl
    refine iteF ⟨_, rfl, _, way.length, rfl, .inr ⟨_, sqt ewa, by simp⟩, rfl, _, rfl, ?_⟩
    cases e2 : decide (V.int (way.length : Int) = V.int 6) with
    | true => exact iteT ⟨_, rfl, out (.inr (.inl (by have := V.int.inj (of_decide_eq_true e2); omega))) H2 (Same.refl _)⟩
    | false =>
    have h5 : ¬ 5 < way.length := fun z => of_decide_eq_false e2 (congrArg V.int (by omega))
    have bad : hf di = false → okG (di, ns, gr) = false := fun e => by show (hf di && _) = false; rw [e, Bool.false_and]
    refine iteF ⟨pv, rfl, pv, di, "tuple", rfl, by decide, hp2, _, rfl, ?_⟩
    cases e3 : isTy "tuple" di with
    | false =>
      refine iteT ⟨_, rfl, out (.inr (.inr (bad ?_))) H2 (Same.refl _)⟩
      cases di <;> first | rfl | (simp [isTy] at e3)
    | true =>
    obtain ⟨ds, rfl⟩ := isTup_inv ((isTy_tuple di).symm.trans e3)
    obtain ⟨pb, zs, rfl, epb, hzs⟩ := id hp2.tup_inv
    refine iteF ⟨_, rfl, .ref pb, zs.length, rfl, .inr ⟨zs, sqt epb, rfl⟩, rfl, _, rfl, ?_⟩
    cases ds with
    | nil =>
      have : zs = [] := List.eq_nil_of_length_eq_zero hzs.1
      subst this
      exact iteT ⟨_, rfl, out (.inr (.inr (bad rfl))) H2 (Same.refl _)⟩
    | cons d0 args =>
    obtain ⟨x0, ex0, r0⟩ := hzs.get (i := 0) (d := d0) rfl
    have hzl : zs.length = args.length + 1 := hzs.1
    rw [decide_eq_false (show ¬ V.int (zs.length : Int) = V.int 0 from fun z => by have := V.int.inj z; omega)]
    refine iteF ⟨_, rfl, pb, zs, 0, _, rfl, rfl, sqt epb, atI_nat (j := 0) ex0, x0, d0, "str", rfl, by decide, r0, _, rfl, ?_⟩
    cases e4 : isTy "str" d0 with
    | false =>
      refine iteT ⟨_, rfl, out (.inr (.inr (bad ?_))) H2 (Same.refl _)⟩
      cases d0 <;> first | rfl | (simp [isTy] at e4)
    | true =>
    obtain ⟨wd, rfl⟩ := str_one e4
    obtain rfl := rep_str r0
    refine iteF ⟨_, rfl, .ref pb, wd, args, rfl, hp2, fun H3 s3 => ⟨_, rfl, ?_⟩⟩
    cases e5 : hf (.tup (.str wd :: args)) with
    | false => exact iteT ⟨_, rfl, out (.inr (.inr (bad e5))) H3 s3⟩
    | true =>
    have ep3 := s3 _ _ epb
    have en3 := s3 _ _ ena
    obtain ⟨w', args', e6, hl', hw'⟩ := hf_split e5
    obtain ⟨rfl, rfl⟩ : wd = w' ∧ args = args' := by
      injection e6 with e6
      injection e6 with e6 e7
      injection e6 with e6
      exact ⟨e6, e7⟩
    have ok : stG (.tup (.str wd :: args), ns, gr) = true → okG (.tup (.str wd :: args), ns, gr) = true := fun e => by show (hf _ && _) = true; rw [e5, e]; rfl
    have nok : stG (.tup (.str wd :: args), ns, gr) = false → okG (.tup (.str wd :: args), ns, gr) = false := fun e => by show (hf _ && _) = false; rw [e, Bool.and_false]
    refine iteF ⟨fun σ4 H4 => σ4 = [some v, some (.ref L), some (.int ((24 - m : Nat) : Int)), some (.ref wa), some (.ref pb), some (.ref na), some (.bl gr), so, nu, ni] ∧ Same H3 H4 ∧ stG (.tup (.str wd :: args), ns, gr) = true, ?_, ?_⟩
    · refine ⟨_, rfl, pb, zs, 0, _, rfl, rfl, sqt ep3, atI_nat (j := 0) ex0, lsz, fun t ht => ⟨t, _, rfl, .inr (sqt upd_same), rfl, rfl, _, rfl, ?_⟩⟩
      have s4 := (Same.refl H3).new (o := .tup [.str "var", .str "upto", .str "times"]) ht
      have e7 : inV (.str (S wd)) [V.str "var", V.str "upto", V.str "times"] = decide (wd ∈ [W "var", W "upto", W "times"]) := inV_W wd ["var", "upto", "times"]
      rw [if_neg Bool.false_ne_true, e7]
      generalize (upd H3 t (.tup [.str "var", .str "upto", .str "times"])) = H4 at *
      have ep4 := s4 _ _ ep3
      have en4 := s4 _ _ en3
      by_cases e8 : wd ∈ [W "var", W "upto", W "times"]
      · rw [decide_eq_true e8]
        have e9 : wd = W "var" ∨ wd = W "upto" ∨ wd = W "times" := by simpa using e8
        obtain ⟨x, r, rfl, hn⟩ := hf_name hl' hw' (by rcases e9 with e | e | e <;> simp [e])
        obtain ⟨x1, ex1, r1⟩ := hzs.get (i := 1) (d := .str x) rfl
        obtain rfl := rep_str r1
        have hst : stG (.tup (.str wd :: .str x :: r), ns, gr) = decide (x ∈ ns) := by
          show (if _ then _ else _) = _
          rw [if_pos e9]
          rfl
        refine iteT ⟨_, rfl, pb, zs, 1, _, rfl, rfl, sqt ep4, atI_nat (j := 1) ex1, _, rfl, na, _, rfl, .inl (sql en4), rfl, by simp [nmV, List.all_map]; intros; rfl, _, rfl, ?_⟩
        rw [if_pos rfl, nmV, inV_str]
        cases e10 : decide (x ∈ ns) with
        | false => exact iteT ⟨_, rfl, out (.inr (.inr (nok (by rw [hst, e10])))) H4 (s3.trans s4)⟩
        | true =>
          refine iteF ⟨_, rfl, pb, zs, 0, _, rfl, rfl, sqt ep4, atI_nat (j := 0) ex0, rfl, _, rfl, ?_⟩
          rw [dstr wd "again", decide_eq_false (show ¬ wd = W "again" from fun z => by rw [z] at e9; revert e9; decide +kernel)]
          exact iteF ⟨rfl, s4, by rw [hst, e10]⟩
      · rw [decide_eq_false e8]
        have e9 : ¬ (wd = W "var" ∨ wd = W "upto" ∨ wd = W "times") := by simpa using e8
        have hst : stG (.tup (.str wd :: args), ns, gr) = (gr || decide (wd ≠ W "again")) := by
          show (if _ then _ else _) = _
          rw [if_neg e9]
        refine iteF ⟨_, rfl, pb, zs, 0, _, rfl, rfl, sqt ep4, atI_nat (j := 0) ex0, rfl, _, rfl, ?_⟩
        rw [dstr wd "again"]
        by_cases e10 : wd = W "again"
        · rw [decide_eq_true e10]
          refine iteT ⟨_, rfl, _, rfl, ?_⟩
          cases gr with
          | true => exact iteF ⟨rfl, s4, by rw [hst]; rfl⟩
          | false => exact iteT ⟨_, rfl, out (.inr (.inr (nok (by rw [hst, Bool.false_or, decide_eq_false fun z => z e10])))) H4 (s3.trans s4)⟩
        · rw [decide_eq_false e10]
          exact iteF ⟨rfl, s4, by rw [hst, decide_eq_true e10, Bool.or_true]⟩
    rintro σ4 H4 ⟨rfl, s34, hst⟩
    have s4 := s3.trans s34
    have hok := ok hst
    clear ok nok out bad
    obtain ⟨m, rfl⟩ : ∃ m', m = m' + 1 := ⟨m - 1, by omega⟩
    have hf2 : sw okG scG m (subs scG (way, .tup (.str wd :: args), ns, gr) ++ its) = gw d := by
      rw [← hsw]
      exact (if_neg (by rintro (z | z) <;> first | exact h5 z | (rw [hok] at z; cases z))).symm
    have ep4 := s4 _ _ epb
    have en4 := s4 _ _ ena
    have eL4 := s4 _ _ eL2
    have ewa4 := s4 _ _ ewa
    have hp4 := hp2.same s4
    have hmet : ((24 - (m + 1) : Nat) : Int) + 1 = ((24 - m : Nat) : Int) := by omega
    generalize hB : ((kidsG (.tup (.str wd :: args))).zipIdx.map fun p => ((way ++ [p.2], p.1, ns, gr) : List Nat × GB)) = B
    have lk : B.length = (kidsG (.tup (.str wd :: args))).length := by rw [← hB]; simp
    have lk6 := kidsG_len e5
    refine ⟨_, rfl, _, _, rfl, rfl, _, rfl, _, _, rfl, hp4, e5, fun H5 O os s5 nO eO hO => ⟨O, os, rfl, sql eO, fun D0 hD0 => lc_it (walk_enum (xs := os)) (CLx B H5 D0) (clx_start hD0) (fun i H6 _ pv => sql (pv.1 _ _ eO)) ?_ ?_⟩⟩
    · rintro i x H6 H7 hi pv ⟨Tq, xi, yi, rfl, hT, rfl, e1, e2⟩
      have hO1 : os.length = (kidsG (.tup (.str wd :: args))).length := hO.1
      obtain rfl : V.int (i : Int) = xi := Option.some.inj e1
      obtain ⟨di', hdi, ri⟩ := Reps.getV hO e2
      have s6 := pv.1
      have s7 : Same H6 (upd H6 Tq (.tup [.int (i : Int), yi])) := (Same.refl _).new hT
      have hz5 : (way.map fun k : Nat => V.int (k : Int)).length + 1 ≤ sizeLine := by
        rw [List.length_map]
        exact sizes' (by show way.length + 1 ≤ 1000000; omega)
      have hk : B[i]? = some (way ++ [i], di', ns, gr) := by
        rw [← hB, List.getElem?_map, List.getElem?_zipIdx, hdi]
        simp
      refine ⟨Tq, _, rfl, sqt upd_same, rfl, .int (i : Int), [yi], rfl, yi, [], rfl, rfl, rfl, _, rfl, _, rfl, lsz, fun t2 ht2 => ⟨wa, t2, _, _, rfl, rfl, up_ne (s7 _ _ (s6 _ _ (s5 _ _ ewa4))) ht2, upd_same, hz5, fun r H8 s8 er => ⟨_, rfl, _, rfl, _, rfl, lsz, fun q2 hq2 => ?_⟩⟩⟩
      have s68 : Same H6 H8 := (s7.new ht2).trans s8
      refine clx_fin (it := (way ++ [i], di', ns, gr)) hD0 (by omega) hk pv s68 hq2 (s5 _ _ en4) ⟨r, rfl, ?_⟩ (ri)
      rw [er, List.map_append]
      rfl
    · intro H6 pv
      have hO1 : os.length = (kidsG (.tup (.str wd :: args))).length := hO.1
      obtain ⟨s6, qs, eqs, hnd, aqs⟩ := clx_done (by omega) pv
      have s46 := s5.trans s6
      have ep6 := s46 _ _ ep4
      have lq : qs.length = B.length := aqs.1
      generalize hT : subs scG (way, .tup (.str wd :: args), ns, gr) = T at *
      have lT : T.length ≤ 6 := by
        rw [← hT]
        unfold subs
        rw [List.length_map, List.length_zipIdx]
        exact scG_len e5
      have hBT : wd ≠ W "let" → wd ≠ W "grow" → T = B := fun h1 h2 => by
        rw [← hT, ← hB]
        unfold subs
        show (scG (.tup (.str wd :: args), ns, gr)).zipIdx.map _ = _
        have : scG (.tup (.str wd :: args), ns, gr) = (kidsG (.tup (.str wd :: args))).map fun d => (d, ns, gr) := by
          show (if wd = W "let" then _ else if wd = W "grow" then _ else _) = _
          rw [if_neg h1, if_neg h2]
        rw [this]
        apply List.ext_getElem
        · simp
        · intro j _ _
          simp
      have nD0 : H D0 = none := (s2.trans (s4.trans s5)).free hD0
      refine ⟨fun σ7 H7 => σ7 = [some v, some (.ref L), some (.int ((24 - m : Nat) : Int)), some (.ref wa), some (.ref pb), some (.ref na), some (.bl gr), some (.ref D0), nu, ni] ∧ Same H5 H7 ∧ H7 D0 = some (.lst qs) ∧ ((wd = W "let" ∧ All2 (LIx H7) qs T) ∨ (wd ≠ W "let" ∧ H7 = H6)), ?_, ?_⟩
      · refine ⟨_, rfl, pb, zs, 0, _, rfl, rfl, sqt ep6, atI_nat (j := 0) ex0, rfl, _, rfl, ?_⟩
        rw [dstr wd "let"]
        by_cases e1 : wd = W "let"
        · rw [decide_eq_true e1]
          obtain ⟨nm, r, rfl, hnmm⟩ := hf_name hl' hw' (by simp [e1])
          have n2 : lenOf wd = 4 := by rw [e1]; decide +kernel
          obtain ⟨a0', b, c, ea0⟩ := len_three (hl'.trans n2)
          obtain ⟨rfl, rfl⟩ := List.cons.inj ea0
          obtain ⟨x1, ex1, r1⟩ := hzs.get (i := 1) (d := .str nm) rfl
          obtain rfl := rep_str r1
          have hk : kidsG (.tup (.str wd :: [.str nm, b, c])) = [b, c] := kidsG_lg (.inl e1)
          have eB : B = [(way ++ [0], b, ns, gr), (way ++ [1], c, ns, gr)] := by rw [← hB, hk]; rfl
          have eT : T = [(way ++ [0], b, ns, gr), (way ++ [1], c, ns ++ [nm], gr)] := by
            rw [← hT]
            unfold subs
            rw [show scG ((way, D.tup (.str wd :: [.str nm, b, c]), ns, gr) : List Nat × GB).2 = [(b, ns, gr), (c, ns ++ [nm], gr)] by
              show (if wd = W "let" then _ else _) = _
              rw [if_pos e1]
              rfl]
            rfl
          rw [eB] at aqs
          rw [eT]
          obtain ⟨v0, v1, rfl⟩ : ∃ v0 v1, qs = [v0, v1] := by
            have := aqs.1
            match qs, this with
            | [v0, v1], _ => exact ⟨v0, v1, rfl⟩
          obtain ⟨q0, wv0, pv0, na0, rfl, nq0, f0, eq0, en0, hw0, hp0⟩ := aqs.head
          obtain ⟨q1, wv1, pv1, na1, rfl, nq1, f1, eq1, en1, hw1, hp1⟩ := aqs.tail.head
          have n01 : q0 ≠ q1 := fun z => by
            subst z
            simp at hnd
          have hzn : (nmV ns).length + 1 ≤ sizeLine := by
            rw [nmV, List.length_map]
            exact sizes' (by show ns.length + 1 ≤ 1000000; have : List.length ns ≤ way.length := hnm0; omega)
          refine iteT ⟨_, rfl, _, rfl, pb, zs, 1, _, rfl, rfl, sqt ep6, atI_nat (j := 1) ex1, lsz, fun t ht => ⟨na, t, _, _, rfl, rfl, up_ne (s6 _ _ (s5 _ _ en4)) ht, upd_same, hzn, fun r hr2 => ⟨_, rfl, D0, _, 1, _, rfl, rfl, sql (up_ne (up_ne eqs ht) hr2), rfl, q1, _, 2, 2, rfl, rfl, up_ne (up_ne eq1 ht) hr2, rfl, by rw [← hmet]; rfl, ?_, ?_, .inl ⟨e1, ?_⟩⟩⟩⟩
          · exact ((s6.new ht).new hr2).put f1
          · rw [upd_ne (Ne.symm nq1)]
            exact up_ne (up_ne eqs ht) hr2
          · have sN : Same H6 (upd (upd H6 t (.lst [.str (S nm)])) r (.lst (nmV ns ++ [.str (S nm)]))) := ((Same.refl _).new ht).new hr2
            have g : Gr (upd (upd H6 t (.lst [.str (S nm)])) r (.lst (nmV ns ++ [.str (S nm)]))) (upd (upd (upd H6 t (.lst [.str (S nm)])) r (.lst (nmV ns ++ [.str (S nm)]))) q1 (.lst [wv1, pv1, .ref r, .bl gr])) := gr_put (sN _ _ eq1)
            have nr : r ≠ q1 := Ne.symm (ne_of_none (up_ne eq1 ht) hr2)
            refine All2.cons ⟨q0, wv0, pv0, na0, rfl, ?_, ?_, (hw0.gr (.of sN)).gr g, ((hp0.same s6).same sN).gr g⟩ (All2.one ⟨q1, wv1, pv1, r, rfl, upd_same, ?_, (hw1.gr (.of sN)).gr g, ((hp1.same s6).same sN).gr g⟩)
            · rw [upd_ne n01]
              exact sN _ _ eq0
            · rw [upd_ne (fun z => by rw [z, f1] at en0; cases en0)]
              exact sN _ _ (s6 _ _ en0)
            · rw [upd_ne nr, upd_same, nmV, nmV, List.map_append]
              rfl
        · rw [decide_eq_false e1]
          exact iteF ⟨by rw [← hmet]; rfl, s6, eqs, .inr ⟨e1, rfl⟩⟩
      rintro σ7 H7 ⟨rfl, s7, eqs7, hcase⟩
      have ep7 := s7 _ _ (s5 _ _ ep4)
      refine ⟨fun σ8 H8 => σ8 = [some v, some (.ref L), some (.int ((24 - m : Nat) : Int)), some (.ref wa), some (.ref pb), some (.ref na), some (.bl gr), some (.ref D0), nu, ni] ∧ Same H5 H8 ∧ H8 D0 = some (.lst qs) ∧ All2 (LIx H8) qs T, ?_, ?_⟩
      · refine ⟨_, rfl, pb, zs, 0, _, rfl, rfl, sqt ep7, atI_nat (j := 0) ex0, rfl, _, rfl, ?_⟩
        rw [dstr wd "grow"]
        by_cases e2 : wd = W "grow"
        · rw [decide_eq_true e2]
          have n1 : wd ≠ W "let" := by rw [e2]; decide +kernel
          obtain rfl : H7 = H6 := by
            rcases hcase with ⟨h, _⟩ | ⟨_, h⟩
            · exact absurd h n1
            · exact h
          have n2 : lenOf wd = 4 := by rw [e2]; decide +kernel
          obtain ⟨a0', b, c, rfl⟩ := len_three (hl'.trans n2)
          have hk : kidsG (.tup (.str wd :: [a0', b, c])) = [b, c] := kidsG_lg (.inr e2)
          have eB : B = [(way ++ [0], b, ns, gr), (way ++ [1], c, ns, gr)] := by rw [← hB, hk]; rfl
          have eT : T = [(way ++ [0], b, ns, gr), (way ++ [1], c, ns, true)] := by
            rw [← hT]
            unfold subs
            rw [show scG ((way, D.tup (.str wd :: [a0', b, c]), ns, gr) : List Nat × GB).2 = [(b, ns, gr), (c, ns, true)] by
              show (if wd = W "let" then _ else if wd = W "grow" then _ else _) = _
              rw [if_neg n1, if_pos e2]
              rfl]
            rfl
          rw [eB] at aqs
          rw [eT]
          obtain ⟨v0, v1, rfl⟩ : ∃ v0 v1, qs = [v0, v1] := by
            have := aqs.1
            match qs, this with
            | [v0, v1], _ => exact ⟨v0, v1, rfl⟩
          obtain ⟨q0, wv0, pv0, na0, rfl, nq0, f0, eq0, en0, hw0, hp0⟩ := aqs.head
          obtain ⟨q1, wv1, pv1, na1, rfl, nq1, f1, eq1, en1, hw1, hp1⟩ := aqs.tail.head
          have n01 : q0 ≠ q1 := fun z => by
            subst z
            simp at hnd
          refine iteT ⟨_, rfl, D0, _, 1, _, rfl, rfl, sql eqs, rfl, q1, _, 3, 3, rfl, rfl, eq1, rfl, rfl, s7.put f1, ?_, ?_⟩
          · rw [upd_ne (Ne.symm nq1)]
            exact eqs
          · have g : Gr H7 (upd H7 q1 (.lst [wv1, pv1, .ref na1, .bl true])) := gr_put eq1
            refine All2.cons ⟨q0, wv0, pv0, na0, rfl, ?_, ?_, hw0.gr g, (hp0.same s7).gr g⟩ (All2.one ⟨q1, wv1, pv1, na1, rfl, upd_same, ?_, hw1.gr g, (hp1.same s7).gr g⟩)
            · rw [upd_ne n01]
              exact eq0
            · rw [upd_ne (fun z => by rw [z, f1] at en0; cases en0)]
              exact s7 _ _ en0
            · rw [upd_ne (fun z => by rw [z, f1] at en1; cases en1)]
              exact s7 _ _ en1
        · rw [decide_eq_false e2]
          refine iteF ⟨rfl, s7, eqs7, ?_⟩
          rcases hcase with ⟨_, h⟩ | ⟨h, rfl⟩
          · exact h
          · rw [hBT h e2]
            exact aqs.mono fun v it r => by
              obtain ⟨q, wv, pv, na, e, _, _, eq, en, hw, hp⟩ := r
              exact ⟨q, wv, pv, na, e, eq, s7 _ _ en, hw, hp.same s7⟩
      rintro σ8 H8 ⟨rfl, s8, eqs8, a8⟩
      have s48 : Same H4 H8 := s5.trans s8
      have eL8 := s48 _ _ eL4
      have lqs : qs.length ≤ 6 := by rw [a8.1]; exact lT
      have g8 : Gr H' H8 := g2.trans (.of (s4.trans s48))
      have k8 : Kx L H' H8 := k2.trans (.of (s4.trans s48))
      refine ⟨_, rfl, _, rfl, .ref D0, qs.length, rfl, .inl ⟨qs, sql eqs8, rfl⟩, _, rfl, by omega, by omega, fun C hC => lc_it walk_range (CPv (fun H v (it : List Nat × GB) => ∃ p wv pv na, v = .ref p ∧ H p = some (.tup [wv, pv, .ref na, .bl it.2.2.2]) ∧ H8 na = some (.lst (nmV it.2.2.1)) ∧ WayR H8 wv it.1 ∧ Rep H8 pv it.2.1) T.reverse H8 C) (cpv_start hC) (fun _ _ _ _ => trivial) ?_ ?_⟩
      · rintro i x H9 H10 hi pv9 ⟨rfl, rfl⟩
        have hi2 : i < T.length := by have := a8.1; omega
        have hj : T.length - 1 - i < T.length := by omega
        have ej : ((qs.length : Nat) : Int) - 1 - (0 + (i : Int)) = ((T.length - 1 - i : Nat) : Int) := by have := a8.1; omega
        obtain ⟨xj, hxj, rxj⟩ := a8.get (List.getElem?_eq_getElem hj)
        have hk2 : T.reverse[i]? = some T[T.length - 1 - i] := by
          rw [List.getElem?_reverse hi2]
          exact List.getElem?_eq_getElem hj
        obtain ⟨qj, wvj, pvj, naj, rfl, eqj, enj, hwj, hpj⟩ := rxj
        have s9 := pv9.1
        refine ⟨rfl, _, rfl, _, rfl, .ref D0, qs.length, rfl, .inl ⟨qs, sql (s9 _ _ eqs8), rfl⟩, _, 1, rfl, rfl, _, rfl, _, _, rfl, rfl, D0, qs, _, _, rfl, rfl, sql (s9 _ _ eqs8), ?_, qj, _, rfl, .inl ⟨sql (s9 _ _ eqj), fun l hl => ?_⟩⟩
        · show atI qs _ = some _
          rw [ej]
          exact atI_nat hxj
        · exact cpv_fin (fun _ _ v it g r => by
            obtain ⟨p, wv, pv, na, e, hp, r⟩ := r
            exact ⟨p, wv, pv, na, e, g.tup _ _ hp, r⟩) hC (by rw [List.length_reverse]; omega) hk2 pv9 ((Same.refl _).new hl) ⟨l, wvj, pvj, naj, rfl, upd_same, enj, hwj, hpj⟩
      · intro H9 pv9
        obtain ⟨s9, ws, ews, aws⟩ := cpv_done (by rw [List.length_reverse]; have := a8.1; omega) pv9
        have eL9 := s9 _ _ eL8
        have lw : ws.length ≤ 6 := by
          rw [aws.1, List.length_reverse]
          exact lT
        have ly : ys.length + 1 ≤ 1 + (24 - (m + 1)) * 6 := by
          rw [List.length_append, List.length_singleton] at hz
          exact hz
        refine ⟨L, C, ys, ws, rfl, rfl, eL9, ews, sizes' (by omega), fun L2 hL2 => ?_⟩
        have s10 : Same H9 (upd H9 L2 (.lst (ys ++ ws))) := (Same.refl _).new hL2
        have g10 : Gr H9 (upd H9 L2 (.lst (ys ++ ws))) := .of s10
        have sall : Same H (upd H9 L2 (.lst (ys ++ ws))) := (((s2.trans s4).trans s48).trans s9).trans s10
        refine ⟨m, Nat.lt_succ_self m, L2, T ++ its, ys ++ ws, _, _, _, _, _, _, _, rfl, by omega, sall, (((s2.trans s4).trans s48).trans s9).free hL2, upd_same, ?_, by rw [List.length_append]; omega, ?_, hf2⟩
        · rw [List.reverse_append]
          have r1 := (aws.mono fun v it r => (show GIx L2 (upd H9 L2 (.lst (ys ++ ws))) v it from by
            obtain ⟨p, wv, pv, na, e, hp, hn, hw, hd⟩ := r
            have hn9 := s9 _ _ hn
            exact ⟨p, wv, pv, na, e, s10 _ _ hp, ne_of_none hn9 hL2, s10 _ _ hn9, (hw.gr (.of s9)).gr g10, (hd.same s9).same s10⟩)).rev
          rw [List.reverse_reverse] at r1
          refine r1.app (hys.mono fun v it r => ?_)
          obtain ⟨p, wv, pv, na, e, hp, hn, en, hw, hd⟩ := r
          have hn9 := s9 _ _ (k8 _ _ hn en)
          exact ⟨p, wv, pv, na, e, s10 _ _ (s9 _ _ (g8.tup _ _ hp)), ne_of_none hn9 hL2, s10 _ _ hn9, ((hw.gr g8).gr (.of s9)).gr g10, ((hd.gr g8).same s9).same s10⟩
        · intro it hit
          rcases List.mem_append.mp hit with hit | hit
          · rw [← hT] at hit
            obtain ⟨q2, hq2, rfl⟩ := List.mem_map.mp hit
            have hm2 : q2.1 ∈ scG (.tup (.str wd :: args), ns, gr) := by
              obtain ⟨_, _, e⟩ := List.mem_zipIdx hq2
              rw [e]
              exact List.getElem_mem _
            have := scG_names hm2
            have hnm0 : List.length ns ≤ way.length := hnm0
            refine ⟨?_, ?_⟩
            · show (way ++ [q2.2]).length ≤ 6
              (rw [List.length_append, List.length_singleton])
              omega
            · show List.length q2.1.2.1 ≤ (way ++ [q2.2]).length
              (rw [List.length_append, List.length_singleton])
              omega
          · exact hnm it (List.mem_cons_of_mem _ hit)
end
end K6
set_option maxHeartbeats 4000001
namespace K6
open L2 PySem PySem.Spec PyProof.Rows
def numW : Int → List Nat
  | .ofNat n => TL.numL n
  | .negSucc n => 45 :: TL.numL (n + 1)
theorem numS (i : Int) : Str.ofString (toString i) = S (numW i) := by
  cases i with
  | ofNat n => exact SX.num_S n
  | negSucc n =>
    refine TL.ext_tl ?_
    show (Str.ofString (toString (Int.negSucc n))).cps.toList = _
    rw [PyProof.Rows.signs_ofString]
    show ("-" ++ Nat.repr (n + 1)).toList.map Char.toNat = 45 :: TL.numL (n + 1)
    rw [String.toList_append, List.map_append]
    show 45 :: (Nat.repr (n + 1)).toList.map Char.toNat = _
    rw [Nat.toList_repr]
    rfl
theorem numW_ne (i : Int) : numW i ≠ [] := by
  cases i with
  | ofNat n => exact TL.numL_ne n
  | negSucc n => exact List.cons_ne_nil _ _
theorem numW_len {i : Int} {k : Nat} (hk : 0 < k) (h1 : -(10 ^ k : Nat) < i) (h2 : i < (10 ^ k : Nat)) : (numW i).length ≤ k + 1 := by
  cases i with
  | ofNat n => exact Nat.le_succ_of_le (TL.numL_len hk (by have : (n : Int) < (10 ^ k : Nat) := h2; exact Int.ofNat_lt.mp this))
  | negSucc n =>
    have := TL.numL_len (n := n + 1) hk (by
      have h3 : Int.negSucc n = -((n + 1 : Nat) : Int) := rfl
      rw [h3] at h1
      have : ((n + 1 : Nat) : Int) < ((10 ^ k : Nat) : Int) := by omega
      exact Int.ofNat_lt.mp this)
    show (TL.numL (n + 1)).length + 1 ≤ k + 1
    omega
def tw : Nat → D → List (List Nat)
  | 0, _ => []
  | n + 1, .tup ds => [91] :: ((ds.map (tw n)).flatten ++ [[93]])
  | _ + 1, .int i => [numW i]
  | _ + 1, .str s => [35 :: s]
  | _ + 1, _ => []
theorem tw_len : ∀ (n : Nat) (d : D), (tw n d).length + 2 ≤ 2 * cnt n d + 1 ∨ (tw n d).length ≤ 2 * cnt n d
  | 0, d => .inr (Nat.zero_le _)
  | n + 1, .tup ds => by
    refine .inr ?_
    show ((ds.map (tw n)).flatten ++ [[93]]).length + 1 ≤ 2 * (1 + (ds.map (cnt n)).sum)
    have : ((ds.map (tw n)).flatten).length ≤ 2 * (ds.map (cnt n)).sum := by
      induction ds with
      | nil => simp
      | cons d r ih =>
        rw [List.map_cons, List.flatten_cons, List.length_append, List.map_cons, List.sum_cons]
        have := tw_len n d
        omega
    (rw [List.length_append, List.length_singleton])
    omega
  | n + 1, .int i => .inr (by show 1 ≤ 2 * 1; decide)
  | n + 1, .str i => .inr (by show 1 ≤ 2 * 1; decide)
  | n + 1, .bl i => .inr (Nat.zero_le _)
  | n + 1, .non => .inr (Nat.zero_le _)
  | n + 1, .oth => .inr (Nat.zero_le _)
theorem tw_le (n : Nat) (d : D) : (tw n d).length ≤ 2 * cnt n d := by
  have := tw_len n d
  omega
theorem tw_short {k : Nat} (hk : 8 ≤ k) : ∀ (n : Nat) (d : D), tok (gd (10 ^ k : Nat)) n d = true → ∀ w ∈ tw n d, w.length ≤ k + 1
  | 0, d, h, w, hw => by cases hw
  | n + 1, .tup ds, h, w, hw => by
    have h2 : (true && ds.all (tok (gd (10 ^ k : Nat)) n)) = true := h
    rw [Bool.true_and, List.all_eq_true] at h2
    rcases List.mem_cons.mp (show w ∈ [91] :: ((ds.map (tw n)).flatten ++ [[93]]) from hw) with e | hw
    · subst e
      simp
    · rcases List.mem_append.mp hw with hw | hw
      · obtain ⟨l, hl, hw⟩ := List.mem_flatten.mp hw
        obtain ⟨d, hd, rfl⟩ := List.mem_map.mp hl
        exact tw_short hk n d (h2 d hd) w hw
      · rw [List.mem_singleton] at hw
        subst hw
        simp
  | n + 1, .int i, h, w, hw => by
    have hw : w ∈ [numW i] := hw
    rw [List.mem_singleton] at hw
    subst hw
    have h2 : (decide (-((10 ^ k : Nat) : Int) < i) && decide (i < ((10 ^ k : Nat) : Int))) = true := h
    rw [Bool.and_eq_true, decide_eq_true_eq, decide_eq_true_eq] at h2
    exact numW_len (by omega) h2.1 h2.2
  | n + 1, .str s, h, w, hw => by
    have hw : w ∈ [35 :: s] := hw
    rw [List.mem_singleton] at hw
    subst hw
    have h2 : (decide (1 ≤ s.length) && (decide (s.length ≤ 8) && s.all fun c => decide (c ∈ smallL))) = true := h
    rw [Bool.and_eq_true, Bool.and_eq_true, decide_eq_true_eq, decide_eq_true_eq] at h2
    rw [List.length_cons]
    omega
  | n + 1, .bl i, h, w, hw => by cases hw
  | n + 1, .non, h, w, hw => by cases hw
  | n + 1, .oth, h, w, hw => by cases hw
def inT (j i : List Nat) : Bool := !(Builtin.Str.occurrences (S j) (S i) 0 (S j).length 1).isEmpty
theorem inT_one (j : List Nat) (c : Nat) : inT j [c] = decide (c ∈ j) := StrLaws.found_one (S j) c
theorem inT_head {j r : List Nat} {c : Nat} (h : c ∉ j) : inT j (c :: r) = false := by
  cases e : inT j (c :: r) with
  | false => rfl
  | true =>
    obtain ⟨i, h1, h2⟩ := (StrLaws.found_iff (S j) (S (c :: r))).mp e
    have h3 : ((S j).cps.extract i (i + (S (c :: r)).length) == (S (c :: r)).cps) = true := h2
    have h4 := congrArg Array.toList (eq_of_beq h3)
    rw [Array.toList_extract] at h4
    have h5 : (j.drop i).take (i + (c :: r).length - i) = c :: r := by
      have h6 : List.extract j i (i + (S (c :: r)).length) = c :: r := h4
      rw [S_len] at h6
      rw [List.extract_eq_take_drop] at h6
      exact h6
    have h6 : c ∈ (j.drop i).take (i + (c :: r).length - i) := by rw [h5]; exact List.mem_cons_self
    exact absurd (List.mem_of_mem_drop (List.mem_of_mem_take h6)) h
def gapS (t w : List Nat) : Bool := t.isEmpty || (decide (t.getLastD 0 ∈ [40, 91]) || inT [41, 93] w)
def sprd1 (t w : List Nat) : List Nat := if gapS t w then t ++ w else t ++ (32 :: w)
def sprd (ws : List (List Nat)) : List Nat := ws.foldl sprd1 []
theorem sprd1_len (t w : List Nat) : (sprd1 t w).length ≤ t.length + 1 + w.length := by
  unfold sprd1
  split <;> simp <;> omega
theorem sprd_len (ws : List (List Nat)) : (sprd ws).length ≤ (ws.map fun w => w.length + 1).sum := by
  have key : ∀ (ws : List (List Nat)) (t : List Nat), (ws.foldl sprd1 t).length ≤ t.length + (ws.map fun w => w.length + 1).sum := by
    intro ws
    induction ws with
    | nil => intro t; simp
    | cons w r ih =>
      intro t
      rw [List.foldl_cons, List.map_cons, List.sum_cons]
      have := ih (sprd1 t w)
      have := sprd1_len t w
      omega
  have := key ws []
  rw [List.length_nil, Nat.zero_add] at this
  exact this
theorem sum_le {ws : List (List Nat)} {k : Nat} (h : ∀ w ∈ ws, w.length ≤ k) : (ws.map fun w => w.length + 1).sum ≤ ws.length * (k + 1) := by
  induction ws with
  | nil => simp
  | cons w r ih =>
    (rw [List.map_cons, List.sum_cons, List.length_cons, Nat.succ_mul])
    have h1 := h w List.mem_cons_self
    have h2 := ih fun w hw => h w (List.mem_cons_of_mem _ hw)
    omega
end K6
set_option maxHeartbeats 4000001
namespace K6
open L2 PySem PySem.Spec PyProof.Rows
def wStrs (ws : List (List Nat)) : List V := ws.map fun w => V.str (S w)
def sp_spread : Sp := fun vs H Q _ => ∃ a ws, vs = [.ref a] ∧ H a = some (.lst (wStrs ws)) ∧ (ws.map fun w => w.length + 1).sum ≤ 1000000 ∧ ∀ H', Same H H' → Q (.str (S (sprd ws))) H'
theorem S_nil : (Str.ofString "" : Str) = S [] := by decide +kernel
theorem S_sp : (Str.ofString " " : Str) = S [32] := by decide +kernel
theorem S_op : (Str.ofString "([" : Str) = S [40, 91] := by decide +kernel
theorem S_cl : (Str.ofString ")]" : Str) = S [41, 93] := by decide +kernel
theorem dnil (t : List Nat) : decide (V.str (S t) = V.str (Str.ofString "")) = t.isEmpty := by
  rw [S_nil]
  cases t with
  | nil => exact decide_eq_true rfl
  | cons c r => exact decide_eq_false fun z => by have := S_inj' (V.str.inj z); cases this
theorem last_at {t : List Nat} (h : t ≠ []) : atI (S t).cps.toList (-1) = some (t.getLastD 0) := by
  obtain ⟨ys, y, rfl⟩ := snoc_of h
  show atI (ys ++ [y]) (-1) = _
  rw [atI_last]
  simp
theorem sum_take {ws : List (List Nat)} (i : Nat) : ((ws.take i).map fun w => w.length + 1).sum ≤ (ws.map fun w => w.length + 1).sum := by
  have h := List.take_append_drop i ws
  have : (ws.map fun w => w.length + 1).sum = ((ws.take i).map fun w => w.length + 1).sum + ((ws.drop i).map fun w => w.length + 1).sum := by
    rw [← List.sum_append, ← List.map_append, h]
  omega
theorem sprd_snoc {ws : List (List Nat)} {i : Nat} {w : List Nat} (h : ws[i]? = some w) : sprd (ws.take (i + 1)) = sprd1 (sprd (ws.take i)) w := by
  rw [List.take_succ, h]
  unfold sprd
  rw [List.foldl_append]
  rfl
theorem sprd_size {ws : List (List Nat)} {i : Nat} {w : List Nat} (h : ws[i]? = some w) : (sprd (ws.take i)).length + (w.length + 1) ≤ (ws.map fun w => w.length + 1).sum := by
  have h1 := sprd_len (ws.take i)
  have h2 := sum_take (ws := ws) (i + 1)
  rw [List.take_succ, h, List.map_append, List.sum_append] at h2
  simp only [Option.toList_some, List.map_cons, List.map_nil, List.sum_cons, List.sum_nil, Nat.add_zero] at h2
  omega
theorem wStrs_get {ws : List (List Nat)} {i : Nat} {x : V} (h : (wStrs ws)[i]? = some x) : ∃ w, ws[i]? = some w ∧ x = .str (S w) := by
  unfold wStrs at h
  rw [List.getElem?_map] at h
  cases e : ws[i]? with
  | none => (rw [e] at h; cases h)
  | some w => rw [e] at h; exact ⟨w, rfl, (Option.some.inj h).symm⟩
section
variable {P : Program}
variable {w : World} {K : PySem.W.Frag} {mg : Str → Option Value} {base : Heap}
abbrev s_spread : Stmt := top 24
abbrev N_spread : List Str := ["words", "text", "word"]
theorem sc_spread : FnScope N_spread ["words"] (defScope s_spread) := ⟨rfl, rfl, rfl, by decide +kernel, rfl, by decide +kernel, by decide +kernel⟩
theorem cl_spread (F : Df K mg "spread" s_spread ["words"]) (T : Tx mg) : Cl P w K mg base 1 "spread" sp_spread := by
  refine F.cl sc_spread (fun vs H Q E h => by obtain ⟨_, _, rfl, _⟩ := h; rfl) (fun f cdv A outer s H vs Q E hr h => ?_)
  have nd := sc_spread.nd
  obtain ⟨a, ws, rfl, ea, hz, k⟩ := h
  refine ⟨_, (pss_cons (pset 1 nd pe_str)
    (pss_cons (ps_for (passes_of rfl) rfl (pi_listK K (pv 0)) (pgn 2 nd) (pss_one (ps_aug (i := 1) nd rfl (Or.inl rfl) (pe_ifExp (PW.pt (pw_or (pt_cmpR op_eq (pv 1) pe_str (nomark _)) (pw_or (pt_cmpR op_in_sign (pe_ix ix_str (pv 1) (pe_un un_neg pe_int) (fun _ _ => rfl)) pe_str rfl) (pw_or1 (pt_cmpR op_in_str (pv 2) pe_str rfl))))) (pv 2) (pe_op op_add_str pe_str (pv 2))) iop_add_str)))
    (pss_one (ps_ret (pv 1))))), ?_⟩
  refine ⟨_, rfl, a, rfl, ⟨_, sql ea⟩, for_it (walk_list (xs := wStrs ws)) (fun i σ' H' => Same H H' ∧ ∃ z, σ' = [some (.ref a), some (.str (S (sprd (ws.take i)))), z]) ⟨Same.refl _, none, by rw [S_nil]; rfl⟩ (fun i σ' H' _ p => sql (p.1 _ _ ea)) ?_ ?_⟩
  · rintro i x σ' H1 H2 hi ⟨s1, z, rfl⟩ ⟨rfl, hx⟩
    obtain ⟨w, hw, rfl⟩ := wStrs_get hx
    have hs := sprd_size hw
    have hn := sprd_snoc hw
    generalize sprd (ws.take i) = t at *
    have fin : ∀ u : List Nat, t ++ u = sprd1 t w → u.length ≤ w.length + 1 → (S t).length + (S u).length ≤ sizeLine ∧ (Same H H2 ∧ ∃ z, ([some (V.ref a), some (V.str (S t)), some (V.str (S w))] : List (Option V)).set 1 (some (V.str (S t ++ S u))) = [some (.ref a), some (.str (S (sprd (ws.take (i + 1))))), z]) := fun u e hu => by
      refine ⟨by rw [S_len, S_len]; exact sizes' (by omega), s1, some (V.str (S w)), ?_⟩
      rw [SX.S_cat, e, hn]
      rfl
    (refine ⟨_, rfl, _, rfl, rfl, _, rfl, ?_⟩)
    rw [dnil]
    have e1 : ∀ b, gapS t w = b → sprd1 t w = if b then t ++ w else t ++ (32 :: w) := fun b e => by
      unfold sprd1
      rw [e]
    cases et : t.isEmpty with
    | true =>
      refine iteT ⟨_, rfl, _, _, rfl, rfl, fin w ?_ (by omega)⟩
      rw [e1 true (by unfold gapS; rw [et]; rfl)]
      rfl
    | false =>
      have hne : t ≠ [] := fun z => by subst z; cases et
      refine iteF ⟨_, rfl, 1, rfl, _, _, _, rfl, rfl, by rw [S_len]; exact sizes' (by omega), last_at hne, _, _, rfl, rfl, _, rfl, ?_⟩
      rw [show (Str.ofString "([" : Str).cps.toList = [40, 91] by decide +kernel]
      cases e2 : decide (t.getLastD 0 ∈ [40, 91]) with
      | true =>
        refine iteT ⟨_, rfl, _, _, rfl, rfl, fin w ?_ (by omega)⟩
        rw [e1 true (by unfold gapS; rw [et, e2]; rfl)]
        rfl
      | false =>
        refine iteF ⟨_, rfl, _, _, rfl, rfl, _, rfl, ?_⟩
        rw [S_cl]
        show if inT [41, 93] w = true then _ else _
        cases e3 : inT [41, 93] w with
        | true =>
          refine iteT ⟨_, rfl, _, _, rfl, rfl, fin w ?_ (by omega)⟩
          rw [e1 true (by unfold gapS; rw [et, e2, e3]; rfl)]
          rfl
        | false =>
          have e4 : Str.ofString " " ++ S w = S (32 :: w) := by rw [S_sp, SX.S_cat]; rfl
          refine iteF ⟨_, rfl, _, _, rfl, rfl, by rw [S_sp, S_len, S_len]; exact sizes' (by show 1 + w.length ≤ _; omega), _, _, rfl, rfl, ?_⟩
          rw [e4]
          refine fin (32 :: w) ?_ (by rw [List.length_cons]; exact Nat.le_refl _)
          rw [e1 false (by unfold gapS; rw [et, e2, e3]; rfl)]
          rfl
  · rintro σ' H1 ⟨s1, z, rfl⟩
    refine ⟨_, rfl, ?_⟩
    have e : sprd (ws.take (wStrs ws).length) = sprd ws := by
      rw [List.take_of_length_le (by unfold wStrs; rw [List.length_map]; exact Nat.le_refl _)]
    rw [e]
    exact k H1 s1
abbrev s__law_spread : Stmt := top 116
abbrev N__law_spread : List Str := ["_law_words_here", "_law_text", "_law_word_here"]
theorem sc__law_spread : FnScope N__law_spread ["_law_words_here"] (defScope s__law_spread) := ⟨rfl, rfl, rfl, by decide +kernel, rfl, by decide +kernel, by decide +kernel⟩
theorem cl__law_spread (F : Df K mg "_law_spread" s__law_spread ["_law_words_here"]) (T : Tx mg) : Cl P w K mg base 1 "_law_spread" sp_spread := by
  refine F.cl sc__law_spread (fun vs H Q E h => by obtain ⟨_, _, rfl, _⟩ := h; rfl) (fun f cdv A outer s H vs Q E hr h => ?_)
  have nd := sc__law_spread.nd
  obtain ⟨a, ws, rfl, ea, hz, k⟩ := h
  refine ⟨_, (pss_cons (pset 1 nd pe_str)
    (pss_cons (ps_for (passes_of rfl) rfl (pi_listK K (pv 0)) (pgn 2 nd) (pss_one (pset 1 nd (pe_op op_add_str (pe_op op_add_str (pv 1) (pe_ifExp (PW.pt (pw_or (pt_cmpR op_eq (pv 1) pe_str (nomark _)) (pw_or (pt_cmpR op_in_sign (pe_ix ix_str (pv 1) (pe_un un_neg pe_int) (fun _ _ => rfl)) pe_str rfl) (pw_or1 (pt_cmpR op_in_str (pv 2) pe_str rfl))))) pe_str pe_str)) (pv 2)))))
    (pss_one (ps_ret (pv 1))))), ?_⟩
  refine ⟨_, rfl, a, rfl, ⟨_, sql ea⟩, for_it (walk_list (xs := wStrs ws)) (fun i σ' H' => Same H H' ∧ ∃ z, σ' = [some (.ref a), some (.str (S (sprd (ws.take i)))), z]) ⟨Same.refl _, none, by rw [S_nil]; rfl⟩ (fun i σ' H' _ p => sql (p.1 _ _ ea)) ?_ ?_⟩
  · rintro i' x σ' H1 H2 hi ⟨s1, z, rfl⟩ ⟨rfl, hx⟩
    obtain ⟨w, hw, rfl⟩ := wStrs_get hx
    have hs := sprd_size hw
    have hn := sprd_snoc hw
    generalize sprd (ws.take i') = t at *
    have fin : ∀ u : List Nat, t ++ (u ++ w) = sprd1 t w → u.length ≤ 1 → (S t).length + (S u).length ≤ sizeLine ∧ (∃ i j, V.str (S t ++ S u) = V.str i ∧ V.str (S w) = V.str j ∧ i.length + j.length ≤ sizeLine ∧ (Same H H2 ∧ ∃ z, ([some (V.ref a), some (V.str (S t)), some (V.str (S w))] : List (Option V)).set 1 (some (V.str (i ++ j))) = [some (.ref a), some (.str (S (sprd (ws.take (i' + 1))))), z])) := fun u e hu => by
      refine ⟨by rw [S_len, S_len]; exact sizes' (by omega), _, _, rfl, rfl, by rw [SX.S_cat, S_len, S_len, List.length_append]; exact sizes' (by omega), s1, some (V.str (S w)), ?_⟩
      rw [SX.S_cat, SX.S_cat, List.append_assoc, e, hn]
      rfl
    have finT : t ++ w = sprd1 t w → _ := fun e => fin [] e (Nat.zero_le _)
    have finF : t ++ (32 :: w) = sprd1 t w → _ := fun e => fin [32] e (Nat.le_refl _)
    (refine ⟨_, rfl, _, rfl, rfl, _, rfl, ?_⟩)
    rw [dnil]
    have e1 : ∀ b, gapS t w = b → sprd1 t w = if b then t ++ w else t ++ (32 :: w) := fun b e => by
      unfold sprd1
      rw [e]
    cases et : t.isEmpty with
    | true =>
      obtain ⟨f1, f2⟩ := finT (by rw [e1 true (by unfold gapS; rw [et]; rfl)]; rfl)
      exact iteT ⟨_, _, rfl, rfl, by rw [S_nil]; exact f1, _, rfl, by rw [S_nil]; exact f2⟩
    | false =>
      have hne : t ≠ [] := fun z => by subst z; cases et
      refine iteF ⟨_, rfl, 1, rfl, _, _, _, rfl, rfl, by rw [S_len]; exact sizes' (by omega), last_at hne, _, _, rfl, rfl, _, rfl, ?_⟩
      rw [show (Str.ofString "([" : Str).cps.toList = [40, 91] by decide +kernel]
      cases e2 : decide (t.getLastD 0 ∈ [40, 91]) with
      | true =>
        obtain ⟨f1, f2⟩ := finT (by rw [e1 true (by unfold gapS; rw [et, e2]; rfl)]; rfl)
        exact iteT ⟨_, _, rfl, rfl, by rw [S_nil]; exact f1, _, rfl, by rw [S_nil]; exact f2⟩
      | false =>
        refine iteF ⟨_, rfl, _, _, rfl, rfl, _, rfl, ?_⟩
        rw [S_cl]
        show if inT [41, 93] w = true then _ else _
        cases e3 : inT [41, 93] w with
        | true =>
          obtain ⟨f1, f2⟩ := finT (by rw [e1 true (by unfold gapS; rw [et, e2, e3]; rfl)]; rfl)
          exact iteT ⟨_, _, rfl, rfl, by rw [S_nil]; exact f1, _, rfl, by rw [S_nil]; exact f2⟩
        | false =>
          obtain ⟨f1, f2⟩ := finF (by rw [e1 false (by unfold gapS; rw [et, e2, e3]; rfl)]; rfl)
          exact iteF ⟨_, _, rfl, rfl, by rw [S_sp]; exact f1, _, rfl, by rw [S_sp]; exact f2⟩
  · rintro σ' H1 ⟨s1, z, rfl⟩
    refine ⟨_, rfl, ?_⟩
    have e : sprd (ws.take (wStrs ws).length) = sprd ws := by
      rw [List.take_of_length_le (by unfold wStrs; rw [List.length_map]; exact Nat.le_refl _)]
    rw [e]
    exact k H1 s1
end
end K6
set_option maxHeartbeats 4000001
namespace K6
open L2 PySem PySem.Spec PyProof.Rows
theorem wk_it {J : L2.It} {n : Nat} {G : Hp → Prop} {Y : Nat → Hp → V → Hp → Prop} (w : Walk J n G Y) {Body : V → Hp → (Hp → Prop) → Prop} {H0 : Hp} {Qd : Hp → Prop} (Pv : Nat → Hp → Prop) (h0 : Pv 0 H0) (hG : ∀ i H, i ≤ n → Pv i H → G H)
    (hs : ∀ i x H H', i < n → Pv i H → Y i H x H' → Body x H' (Pv (i + 1))) (hd : ∀ H, Pv n H → Qd H) :
    ∃ W : Nat → Nat → Hp → Prop, (∃ m, W 0 m H0) ∧ ∀ i m H, W i m H → (J.stop i H ∧ Qd H) ∨ (J.go i H ∧ ∃ Nx : Hp → Prop, (∀ H', Nx H' → ∃ m', m' < m ∧ W (i + 1) m' H') ∧ ∀ x H', J.yld i H x H' → Body x H' Nx) := by
  (refine ⟨fun i m H => m = n - i ∧ i ≤ n ∧ Pv i H, ⟨n, by simp, Nat.zero_le _, h0⟩, ?_⟩)
  rintro i m H ⟨rfl, hi, p⟩
  have q := hG i H hi p
  by_cases hlt : i < n
  · exact .inr ⟨w.goes i H hlt q, Pv (i + 1), fun H' p' => ⟨n - (i + 1), by omega, rfl, hlt, p'⟩, fun x H' y => hs i x H H' hlt p (w.yields i H x H' hlt q y)⟩
  · have e : i = n := by omega
    subst e
    (exact .inl ⟨w.stops H q, hd H p⟩)
def sp_tw (n : Nat) : Sp := fun vs H Q _ => ∃ v d, vs = [v] ∧ Rep H v d ∧ tok (gd (10 ^ 60)) n d = true ∧ cnt n d ≤ 300 ∧ ∀ H' a, Same H H' → H a = none → H' a = some (.lst (wStrs (tw n d))) → Q (.ref a) H'
theorem sp_tw_len {n : Nat} : ∀ vs H Q E, sp_tw n vs H Q E → vs.length = 1 := fun vs H Q E h => by
  obtain ⟨_, _, rfl, _⟩ := h
  rfl
theorem wStrs_app (a b : List (List Nat)) : wStrs (a ++ b) = wStrs a ++ wStrs b := List.map_append
theorem log_num {i : Int} (h : gd (10 ^ 60) (.int i) = true) : i.natAbs.log2 < 1920 := by
  have h2 : (decide (-(10 ^ 60) < i) && decide (i < 10 ^ 60)) = true := h
  rw [Bool.and_eq_true, decide_eq_true_eq, decide_eq_true_eq] at h2
  have h3 : i.natAbs < 2 ^ 200 := by
    have : (10 : Int) ^ 60 < 2 ^ 200 := by decide
    have h4 : ((2 : Int) ^ 200) = ((2 ^ 200 : Nat) : Int) := rfl
    omega
  by_cases h0 : i.natAbs = 0
  · rw [h0]
    decide
  · exact Nat.lt_trans ((Nat.log2_lt h0).mpr h3) (by decide)
theorem cnt_sub {n : Nat} {ds : List D} {i : Nat} {d : D} (h : ds[i]? = some d) : cnt n d ≤ (ds.map (cnt n)).sum := by
  have h2 : d ∈ ds := List.mem_of_getElem? h
  clear h
  induction ds with
  | nil => cases h2
  | cons e r ih =>
    (rw [List.map_cons, List.sum_cons])
    rcases List.mem_cons.mp h2 with z | z
    · rw [z]
      omega
    · have := ih z
      omega
theorem flat_take {n : Nat} {ds : List D} {i : Nat} {d : D} (h : ds[i]? = some d) : ((ds.take (i + 1)).map (tw n)).flatten = ((ds.take i).map (tw n)).flatten ++ tw n d := by
  rw [List.take_succ, h, List.map_append, List.flatten_append]
  simp
theorem flat_le {n : Nat} {ds : List D} (i : Nat) : (((ds.take i).map (tw n)).flatten).length ≤ 2 * (ds.map (cnt n)).sum := by
  have h1 : ∀ l : List D, ((l.map (tw n)).flatten).length ≤ 2 * (l.map (cnt n)).sum := by
    intro l
    induction l with
    | nil => simp
    | cons d r ih =>
      rw [List.map_cons, List.flatten_cons, List.length_append, List.map_cons, List.sum_cons]
      have := tw_le n d
      omega
  have h2 := h1 (ds.take i)
  have h3 : (ds.map (cnt n)).sum = ((ds.take i).map (cnt n)).sum + ((ds.drop i).map (cnt n)).sum := by
    rw [← List.sum_append, ← List.map_append, List.take_append_drop]
  omega
section
variable {P : Program}
variable {w : World} {K : PySem.W.Frag} {mg : Str → Option Value} {base : Heap}
abbrev s_thing_words : Stmt := top 55
abbrev N_thing_words : List Str := ["thing", "one", "word"]
theorem sc_thing_words : FnScope N_thing_words ["thing"] (defScope s_thing_words) := ⟨rfl, rfl, rfl, by decide +kernel, rfl, by decide +kernel, by decide +kernel⟩
theorem cl_thing_words (F : Df K mg "thing_words" s_thing_words ["thing"]) (T : Tx mg) (c_is_number : Cl P w K mg base 1 "is_number" (spB isNum)) : ∀ n, Cl P w K mg base (n + 2) "thing_words" (sp_tw n)
  | 0 => F.cl sc_thing_words sp_tw_len (fun f cdv A outer s H vs Q E hr h => by
      obtain ⟨v, d, rfl, hd, ht, _⟩ := h
      cases ht)
  | n + 1 => by
    have c_thing_words := cl_thing_words F T c_is_number n
    refine F.cl sc_thing_words sp_tw_len (fun f cdv A outer s H vs Q E hr h => ?_)
    have nd := sc_thing_words.nd
    obtain ⟨v, d, rfl, hd, ht, hc, k⟩ := h
    refine ⟨_, (pss_cons (ps_if (pt_val (pf c_is_number hr (by omega) rfl (pa_cons (pv 0) pa_nil))) (pss_one (ps_ret (pe_lst (pa_cons (pe_callTy call_str_int rfl T.n_str bt_str (pa_cons (pv 0) pa_nil)) pa_nil)))) pss_nil)
      (pss_cons (ps_if (pt_val (pe_callB (call_isDK K) rfl T.n_isinstance bb_isinstance (pa_cons (pv 0) (pa_cons (pty (n := "str") rfl T.n_str bt_str) pa_nil)))) (pss_one (ps_ret (pe_lst (pa_cons (pe_op op_add_str pe_str (pv 0)) pa_nil)))) pss_nil)
      (pss_one (ps_ret (pe_op op_cat (pe_op op_cat (pe_lst (pa_cons pe_str pa_nil)) (pe_lc2 (vs1 := [2]) (own := [("one", 1), ("word", 2)]) rfl nd (pi_tupK K (pv 0)) (blkOk_by (own := [("one", 1), ("word", 2)]) (N := N_thing_words) (sc := defScope s_thing_words) (by decide +kernel)) (by decide) (fun _ _ _ _ _ => (pgn 1 nd)) (fun _ _ _ _ _ => pts_nil) (fun _ _ _ _ _ => (pi_listK K (pf c_thing_words hr (by omega) rfl (pa_cons (pv 1) pa_nil)))) (fun _ _ _ _ _ => (pgn 2 nd)) (fun _ _ _ _ _ => pts_nil) (fun _ _ _ _ _ => (pv 2)))) (pe_lst (pa_cons pe_str pa_nil))))))), ?_⟩
    refine ⟨v, rfl, v, d, rfl, hd, fun H1 s1 => ⟨_, rfl, ?_⟩⟩
    have hd1 := hd.same s1
    cases d with
    | int i =>
      cases hd
      refine iteT ⟨_, rfl, i, rfl, log_num ht, lsz, fun L hL => k _ L (s1.new hL) (s1.free hL) ?_⟩
      rw [upd_same, numS]
      rfl
    | str z =>
      refine iteF ⟨v, rfl, v, _, "str", rfl, by decide, hd1, _, rfl, iteT ?_⟩
      obtain ⟨rfl⟩ : v = .str (S z) := rep_str hd
      have hz : z.length ≤ 1000000 := by cases hd; assumption
      refine ⟨_, rfl, _, _, rfl, rfl, ?_, lsz, fun L hL => k _ L (s1.new hL) (s1.free hL) ?_⟩
      · have h2 : (decide (1 ≤ z.length) && (decide (z.length ≤ 8) && z.all fun c => decide (c ∈ smallL))) = true := ht
        rw [Bool.and_eq_true, Bool.and_eq_true, decide_eq_true_eq, decide_eq_true_eq] at h2
        rw [S_len]
        exact sizes' (by show 1 + z.length ≤ _; omega)
      · rw [upd_same, show (Str.ofString "#" : Str) = S [35] by decide +kernel, SX.S_cat]
        rfl
    | tup ds =>
      have ht2 : (true && ds.all (tok (gd (10 ^ 60)) n)) = true := ht
      rw [Bool.true_and, List.all_eq_true] at ht2
      have hc2 : 1 + (ds.map (cnt n)).sum ≤ 300 := hc
      refine iteF ⟨v, rfl, v, _, "str", rfl, by decide, hd1, _, rfl, iteF ?_⟩
      obtain ⟨p, xs, rfl, ep, hx⟩ := hd1.tup_inv
      refine ⟨lsz, fun A0 hA => ⟨_, rfl, p, rfl, ⟨xs, sqt (up_ne ep hA)⟩, fun C hC => ?_⟩⟩
      have sA : Same H1 (upd H1 A0 (.lst [.str "["])) := (Same.refl _).new hA
      have eA : (upd H1 A0 (.lst [.str "["])) A0 = some (.lst [.str "["]) := upd_same
      have epA := sA _ _ ep
      generalize (upd H1 A0 (.lst [.str "["])) = H2 at *
      refine wk_it (walk_tup (xs := xs)) (fun i H => Same H2 H ∧ H C = some (.lst (wStrs ((ds.take i).map (tw n)).flatten))) ⟨(Same.refl _).new hC, upd_same⟩ (fun i H _ p => sqt (p.1 _ _ epA)) ?_ ?_
      · rintro i x H3 H4 hi ⟨s3, e3⟩ ⟨rfl, hxi⟩
        obtain ⟨di, hdi, ri⟩ := hx.getV hxi
        have hcd := cnt_sub (n := n) hdi
        refine ⟨rfl, x, rfl, x, di, rfl, (ri.same sA).same s3, ht2 di (List.mem_of_getElem? hdi), by omega, fun H5 L s5 nL eL => ⟨L, rfl, ⟨_, sql eL⟩, ?_⟩⟩
        have lw := tw_le n di
        have l0 := flat_le (n := n) (ds := ds) i
        have nLC : C ≠ L := ne_of_none e3 nL
        refine wk_it (walk_list (xs := wStrs (tw n di))) (fun j H => Same H2 H ∧ H L = some (.lst (wStrs (tw n di))) ∧ H C = some (.lst (wStrs (((ds.take i).map (tw n)).flatten ++ (tw n di).take j)))) ⟨s3.trans s5, eL, by rw [List.take_zero, List.append_nil]; exact s5 _ _ e3⟩ (fun j H _ p => sql p.2.1) ?_ ?_
        · rintro j y H6 H7 hj ⟨s6, eL6, e6⟩ ⟨rfl, hy⟩
          obtain ⟨wd, hwd, rfl⟩ := wStrs_get hy
          refine ⟨rfl, _, rfl, _, e6, ?_, s6.put hC, ?_, ?_⟩
          · unfold wStrs
            rw [List.length_map, List.length_append, List.length_take]
            exact sizes (by omega)
          · rw [upd_ne (Ne.symm nLC)]
            exact eL6
          · rw [upd_same, List.take_succ, hwd, ← List.append_assoc, wStrs_app _ (Option.toList _)]
            rfl
        · rintro H6 ⟨s6, eL6, e6⟩
          refine ⟨s6, ?_⟩
          rw [e6, flat_take hdi, show (tw n di).take (wStrs (tw n di)).length = tw n di from List.take_of_length_le (by unfold wStrs; rw [List.length_map]; exact Nat.le_refl _)]
      · rintro H3 ⟨s3, e3⟩
        rw [hx.1, List.take_length] at e3
        have l0 := flat_le (n := n) (ds := ds) ds.length
        rw [List.take_length] at l0
        refine ⟨A0, C, _, _, rfl, rfl, s3 _ _ eA, e3, ?_, fun B hB => ⟨lsz, fun B2 hB2 => ⟨B, B2, _, _, rfl, rfl, up_ne upd_same hB2, upd_same, ?_, fun L hL => k _ L ?_ ?_ ?_⟩⟩⟩
        · unfold wStrs
          rw [List.length_map]
          exact sizes' (by show 1 + _ ≤ _; omega)
        · unfold wStrs
          rw [List.length_append, List.length_map]
          exact sizes' (by show 1 + _ + 1 ≤ _; omega)
        · exact (((s1.trans (sA.trans s3)).new hB).new hB2).new hL
        · exact (((s1.trans (sA.trans s3)).new hB).new hB2).free hL
        · rw [upd_same]
          have e : tw (n + 1) (.tup ds) = [[91]] ++ ((ds.map (tw n)).flatten ++ [[93]]) := rfl
          rw [e, wStrs_app, wStrs_app, ← List.append_assoc]
          rfl
    | _ => cases ht
abbrev s__law_thing_words : Stmt := top 114
abbrev N__law_thing_words : List Str := ["_law_thing_here", "_law_found", "_law_part"]
theorem sc__law_thing_words : FnScope N__law_thing_words ["_law_thing_here"] (defScope s__law_thing_words) := ⟨rfl, rfl, rfl, by decide +kernel, rfl, by decide +kernel, by decide +kernel⟩
theorem cl__law_thing_words (F : Df K mg "_law_thing_words" s__law_thing_words ["_law_thing_here"]) (T : Tx mg) : ∀ n, Cl P w K mg base (n + 1) "_law_thing_words" (sp_tw n)
  | 0 => F.cl sc__law_thing_words sp_tw_len (fun f cdv A outer s H vs Q E hr h => by
      obtain ⟨v, d, rfl, hd, ht, _⟩ := h
      cases ht)
  | n + 1 => by
    have c__law_thing_words := cl__law_thing_words F T n
    refine F.cl sc__law_thing_words sp_tw_len (fun f cdv A outer s H vs Q E hr h => ?_)
    have nd := sc__law_thing_words.nd
    obtain ⟨v, d, rfl, hd, ht, hc, k⟩ := h
    refine ⟨_, (pss_cons (ps_if (pt_val (pe_callB (call_isDK K) rfl T.n_isinstance bb_isinstance (pa_cons (pv 0) (pa_cons (pty (n := "tuple") rfl T.n_tuple bt_tuple) pa_nil)))) (pss_cons (pset 1 nd (pe_lst (pa_cons pe_str pa_nil)))
        (pss_cons (ps_for (passes_of rfl) rfl (pi_tupK K (pv 0)) (pgn 2 nd) (pss_one (pset 1 nd (pe_op op_cat (pv 1) (pf c__law_thing_words hr (by omega) rfl (pa_cons (pv 2) pa_nil))))))
        (pss_one (ps_ret (pe_op op_cat (pv 1) (pe_lst (pa_cons pe_str pa_nil))))))) pss_nil)
      (pss_one (ps_ret (pe_lst (pa_cons (pe_ifExp (pt_val (pe_callB (call_isDK K) rfl T.n_isinstance bb_isinstance (pa_cons (pv 0) (pa_cons (pty (n := "str") rfl T.n_str bt_str) pa_nil)))) (pe_op op_add_str pe_str (pv 0)) (pe_callTy call_str_int rfl T.n_str bt_str (pa_cons (pv 0) pa_nil))) pa_nil))))), ?_⟩
    refine ⟨v, rfl, v, d, "tuple", rfl, by decide, hd, _, rfl, ?_⟩
    cases d with
    | int i =>
      cases hd
      refine iteF ⟨_, rfl, _, .int i, "str", rfl, by decide, .int i, _, rfl, iteF ⟨_, rfl, i, rfl, log_num ht, lsz, fun L hL => k _ L ((Same.refl _).new hL) hL ?_⟩⟩
      rw [upd_same, numS]
      rfl
    | str z =>
      obtain ⟨rfl⟩ : v = .str (S z) := rep_str hd
      refine iteF ⟨_, rfl, _, .str z, "str", rfl, by decide, hd, _, rfl, iteT ⟨_, rfl, _, _, rfl, rfl, ?_, lsz, fun L hL => k _ L ((Same.refl _).new hL) hL ?_⟩⟩
      · have h2 : (decide (1 ≤ z.length) && (decide (z.length ≤ 8) && z.all fun c => decide (c ∈ smallL))) = true := ht
        rw [Bool.and_eq_true, Bool.and_eq_true, decide_eq_true_eq, decide_eq_true_eq] at h2
        rw [S_len]
        exact sizes' (by show 1 + z.length ≤ _; omega)
      · rw [upd_same, show (Str.ofString "#" : Str) = S [35] by decide +kernel, SX.S_cat]
        rfl
    | tup ds =>
      have ht2 : (true && ds.all (tok (gd (10 ^ 60)) n)) = true := ht
      rw [Bool.true_and, List.all_eq_true] at ht2
      have hc2 : 1 + (ds.map (cnt n)).sum ≤ 300 := hc
      obtain ⟨p, xs, rfl, ep, hx⟩ := hd.tup_inv
      refine iteT ⟨lsz, fun A0 hA => ⟨_, rfl, p, rfl, ⟨xs, sqt (up_ne ep hA)⟩, ?_⟩⟩
      have sA : Same H (upd H A0 (.lst [.str "["])) := (Same.refl _).new hA
      have eA : (upd H A0 (.lst [.str "["])) A0 = some (.lst [.str "["]) := upd_same
      have epA := sA _ _ ep
      generalize (upd H A0 (.lst [.str "["])) = H2 at *
      refine for_it (walk_tup (xs := xs)) (fun i σ' H' => Same H H' ∧ ∃ (B : Addr) (z : Option V), σ' = [some (.ref p), some (.ref B), z] ∧ H B = none ∧ H' B = some (.lst (wStrs ([91] :: ((ds.take i).map (tw n)).flatten)))) ⟨sA, A0, none, rfl, hA, eA⟩ (fun i σ' H' _ p => sqt (p.1 _ _ ep)) ?_ ?_
      · rintro i x σ' H3 H4 hi ⟨s3, B, z, rfl, nB, eB⟩ ⟨rfl, hxi⟩
        obtain ⟨di, hdi, ri⟩ := hx.getV hxi
        have hcd := cnt_sub (n := n) hdi
        have l0 := flat_le (n := n) (ds := ds) i
        have lw := tw_le n di
        refine ⟨_, rfl, x, rfl, x, di, rfl, ri.same s3, ht2 di (List.mem_of_getElem? hdi), by omega, fun H5 L s5 nL eL => ⟨B, L, _, _, rfl, rfl, s5 _ _ eB, eL, ?_, fun B2 hB2 => ⟨(s3.trans s5).new hB2, B2, _, rfl, (s3.trans s5).free hB2, ?_⟩⟩⟩
        · unfold wStrs
          rw [List.length_map, List.length_map, List.length_cons]
          exact sizes' (by omega)
        · rw [upd_same, flat_take hdi, ← wStrs_app]
          rfl
      · rintro σ' H3 ⟨s3, B, z, rfl, nB, eB⟩
        rw [hx.1, List.take_length] at eB
        have l0 := flat_le (n := n) (ds := ds) ds.length
        rw [List.take_length] at l0
        refine ⟨_, rfl, lsz, fun B2 hB2 => ⟨B, B2, _, _, rfl, rfl, up_ne eB hB2, upd_same, ?_, fun L hL => k _ L ((s3.new hB2).new hL) ((s3.new hB2).free hL) ?_⟩⟩
        · unfold wStrs
          rw [List.length_map, List.length_cons]
          exact sizes' (by show _ + 1 + 1 ≤ _; omega)
        · rw [upd_same]
          have e : tw (n + 1) (.tup ds) = ([91] :: (ds.map (tw n)).flatten) ++ [[93]] := rfl
          rw [e, wStrs_app]
          rfl
    | _ => cases ht
def sp_thing_text (C : Addr) : Sp := fun vs H Q E => ∃ v d, vs = [v] ∧ Rep H v d ∧ (fb (gd (10 ^ 60)) 300 300 [([], d)] = none → ∀ H', Same H H' → Q (.str (S (sprd (tw 6 d)))) H') ∧ ∀ way, fb (gd (10 ^ 60)) 300 300 [([], d)] = some way → Place C H way E
theorem gd60 : gd (10 ^ 60) = gd ((10 ^ 60 : Nat) : Int) := rfl
theorem tw_sum {n : Nat} {d : D} {m : Nat} (ht : tok (gd (10 ^ 60)) n d = true) (hc : cnt n d ≤ m) : ((tw n d).map fun w => w.length + 1).sum ≤ m * 124 := by
  have h1 := sum_le (ws := tw n d) (k := 61) (tw_short (k := 60) (by decide) n d ht)
  have h2 := tw_le n d
  have : (tw n d).length * 62 ≤ (2 * m) * 62 := Nat.mul_le_mul_right _ (by omega)
  omega
abbrev s_thing_text : Stmt := top 56
abbrev N_thing_text : List Str := ["thing"]
theorem sc_thing_text : FnScope N_thing_text ["thing"] (defScope s_thing_text) := ⟨rfl, rfl, rfl, by decide +kernel, rfl, by decide +kernel, by decide +kernel⟩
theorem cl_thing_text {C : Addr} (F : Df K mg "thing_text" s_thing_text ["thing"]) (T : Tx mg) (c_need_thing : Cl P w K mg base 4 "need_thing" (sp_need_thing C)) (c_thing_words : Cl P w K mg base 8 "thing_words" (sp_tw 6)) (c_spread : Cl P w K mg base 1 "spread" sp_spread) : Cl P w K mg base 9 "thing_text" (sp_thing_text C) := by
  refine F.cl sc_thing_text (fun vs H Q E h => by obtain ⟨_, _, rfl, _⟩ := h; rfl) (fun f cdv A outer s H vs Q E hr h => ?_)
  have nd := sc_thing_text.nd
  obtain ⟨v, d, rfl, hd, k, ke⟩ := h
  refine ⟨_, (pss_one (ps_ret (pf c_spread hr (by omega) rfl (pa_cons (pf c_thing_words hr (by omega) rfl (pa_cons (pfX c_need_thing tkE (fun _ _ _ _ h => h) hr (by omega) rfl (pa_cons (pv 0) pa_nil)) pa_nil)) pa_nil)))), ?_⟩
  refine ⟨v, rfl, v, d, rfl, hd, fun e H1 s1 => ?_, ke⟩
  obtain ⟨ht, hc⟩ := fb_start.mp e
  refine ⟨v, d, rfl, hd.same s1, ht, hc, fun H2 a s2 _ ea => ⟨a, _, rfl, ea, ?_, fun H3 s3 => k e H3 ((s1.trans s2).trans s3)⟩⟩
  have := tw_sum ht hc
  omega
end
end K6
set_option maxHeartbeats 4000001
namespace K6
open L2 PySem PySem.Spec PyProof.Rows
def strOf : D → List Nat
  | .int i => numW i
  | .str s => s
  | _ => []
def fstD : D → D
  | .tup [a, _] => a
  | _ => .non
def gin (g : D → List (List Nat)) (d : D) : List (List Nat) := [40] :: (g d ++ [[41]])
def argWs (g : D → List (List Nat)) : D → List (List Nat)
  | .tup ds => gin g (.tup ds)
  | a => [strOf a]
def gws : Nat → D → List (List Nat)
  | 0, _ => []
  | n + 1, .tup (.str w :: args) => w :: (if w = W "just" then tw 6 (args.getD 0 .non) else if w = W "some" then ((tupL (args.getD 0 .non)).map (tw 6)).flatten
      else if w = W "mix" then ((tupL (args.getD 0 .non)).map fun p => strOf (fstD p) :: gin (gws n) (sndD p)).flatten
      else if w = W "all" then ((tupL (args.getD 0 .non)).map (gin (gws n))).flatten else (args.map (argWs (gws n))).flatten)
  | _ + 1, _ => []
def fok : Nat → D → Bool
  | 0, _ => false
  | n + 1, d => hf d && (kidsG d).all (fok n)
def gct : Nat → D → Nat
  | 0, _ => 1
  | n + 1, d => 1 + ((kidsG d).map (gct n)).sum
theorem fok_hf {n : Nat} {d : D} (h : fok n d = true) : hf d = true := by
  cases n with
  | zero => cases h
  | succ n =>
    have h2 : (hf d && (kidsG d).all (fok n)) = true := h
    rw [Bool.and_eq_true] at h2
    exact h2.1
theorem fok_kids {n : Nat} {d : D} (h : fok (n + 1) d = true) : ∀ k ∈ kidsG d, fok n k = true := by
  have h2 : (hf d && (kidsG d).all (fok n)) = true := h
  rw [Bool.and_eq_true, List.all_eq_true] at h2
  exact h2.2
theorem hf_tup {d : D} (h : hf d = true) : ∃ w args, d = .tup (.str w :: args) := by
  obtain ⟨w, args, e, _⟩ := hf_split h
  exact ⟨w, args, e⟩
theorem argWs_kid {g : D → List (List Nat)} {d : D} (h : hf d = true) : argWs g d = gin g d := by
  obtain ⟨w, args, rfl⟩ := hf_tup h
  rfl
theorem scG_fst {d : D} {ns : Nms} {gr : Bool} (h : hf d = true) : (scG (d, ns, gr)).map (·.1) = kidsG d := by
  obtain ⟨w, args, rfl, hl, hw⟩ := hf_split h
  show (if w = W "let" then _ else if w = W "grow" then _ else _ : List GB).map (·.1) = _
  by_cases e1 : w = W "let"
  · rw [if_pos e1, kidsG_lg (.inl e1)]
    obtain ⟨a, b, c, rfl⟩ := len_three (hl.trans (by rw [e1]; decide +kernel))
    rfl
  · rw [if_neg e1]
    by_cases e2 : w = W "grow"
    · rw [if_pos e2, kidsG_lg (.inr e2)]
      obtain ⟨a, b, c, rfl⟩ := len_three (hl.trans (by rw [e2]; decide +kernel))
      rfl
    · rw [if_neg e2, List.map_map]
      exact List.map_id _
theorem fok_of : ∀ (n : Nat) (b : GB), tokS okG scG n b = true → fok n b.1 = true ∧ cntS scG n b = gct n b.1
  | 0, b, h => by cases h
  | n + 1, (d, ns, gr), h => by
    have h2 : (okG (d, ns, gr) && (scG (d, ns, gr)).all (tokS okG scG n)) = true := h
    rw [Bool.and_eq_true, List.all_eq_true] at h2
    have h3 : (hf d && stG (d, ns, gr)) = true := h2.1
    rw [Bool.and_eq_true] at h3
    have e := scG_fst (ns := ns) (gr := gr) h3.1
    refine ⟨?_, ?_⟩
    · show (hf d && (kidsG d).all (fok n)) = true
      rw [h3.1, Bool.true_and, List.all_eq_true, ← e]
      intro k hk
      obtain ⟨b, hb, rfl⟩ := List.mem_map.mp hk
      exact (fok_of n b (h2.2 b hb)).1
    · show 1 + ((scG (d, ns, gr)).map (cntS scG n)).sum = 1 + ((kidsG d).map (gct n)).sum
      rw [← e, List.map_map]
      congr 2
      exact List.map_congr_left fun b hb => (fok_of n b (h2.2 b hb)).2
theorem gw_fok {d : D} (h : gw d = none) : fok 6 d = true ∧ gct 6 d ≤ 24 := by
  obtain ⟨h1, h2⟩ := sw_start.mp h
  obtain ⟨h3, h4⟩ := fok_of 6 (d, [], false) h1
  exact ⟨h3, by rw [h4] at h2; exact h2⟩
theorem own_words {t : D} (h : own t = true) : tok (gd (10 ^ 30)) 6 t = true ∧ tok (gd (10 ^ 60)) 6 t = true ∧ cnt 6 t ≤ 60 ∧ (tw 6 t).length ≤ 120 ∧ ∀ w ∈ tw 6 t, w.length ≤ 31 := by
  obtain ⟨h1, h2⟩ := own_iff.mp h
  have h3 : tok (gd (10 ^ 60)) 6 t = true := by
    have := tok30 6 t
    rw [h1] at this
    have := this.symm
    rw [Bool.and_eq_true] at this
    exact this.1
  refine ⟨h1, h3, h2, ?_, tw_short (k := 30) (by decide) 6 t h1⟩
  have := tw_le 6 t
  omega
theorem W_short : ∀ s ∈ ["just", "some", "from", "mix", "all", "row", "turn", "keep", "let", "var", "upto", "times", "grow", "again"], (W s).length ≤ 31 := by decide +kernel
theorem turn_short : ∀ w ∈ turnW, w.length ≤ 31 := by decide +kernel
theorem test_short : ∀ w ∈ testW, w.length ≤ 31 := by decide +kernel
theorem nm_short {w : List Nat} (h : isNm w = true) : w.length ≤ 31 := by
  have h2 : (decide (1 ≤ w.length) && (decide (w.length ≤ 8) && w.all fun c => decide (c ∈ smallL))) = true := h
  rw [Bool.and_eq_true, Bool.and_eq_true, decide_eq_true_eq, decide_eq_true_eq] at h2
  omega
theorem num_short {i : Int} (h1 : -(10 ^ 30) < i) (h2 : i < 10 ^ 30) : (numW i).length ≤ 31 := numW_len (k := 30) (by decide) h1 h2
theorem hf_args {w : List Nat} {args : List D} (hl : args.length + 1 = lenOf w) (hw : hfW w args = true) (n1 : w ≠ W "just") (n2 : w ≠ W "some") (n3 : w ≠ W "mix") (n4 : w ≠ W "all") :
    ∀ a ∈ args, (∃ i, a = .int i ∧ -(10 ^ 30) < i ∧ i < 10 ^ 30) ∨ (∃ s, a = .str s ∧ s.length ≤ 31) ∨ a ∈ kidsG (.tup (.str w :: args)) := by
  have h := hf_inv (show hf (.tup (.str w :: args)) = true by show (decide _ && _) = true; rw [decide_eq_true hl, hw]; rfl)
  generalize e : D.tup (.str w :: args) = d at h
  have num : ∀ {lo hi i : Int}, lo ≤ i → i ≤ hi → -(10 ^ 30) < lo → hi < 10 ^ 30 → ∀ {a : D}, a = .int i → (∃ i, a = .int i ∧ -(10 ^ 30) < i ∧ i < 10 ^ 30) ∨ (∃ s, a = .str s ∧ s.length ≤ 31) ∨ a ∈ kidsG d := by
    intro lo hi i h1 h2 h3 h4 a e
    exact .inl ⟨_, e, by omega, by omega⟩
  have go : ∀ {s : String} {as : List D}, D.tup (.str w :: args) = gnD s as → w = W s ∧ args = as := fun {s as} e => by
    injection e with e
    injection e with e1 e2
    injection e1 with e1
    exact ⟨e1, e2⟩
  cases h with
  | just t h => exact absurd (go e).1 n1
  | some ts h1 h2 h => exact absurd (go e).1 n2
  | mix ps h1 h2 h => exact absurd (go e).1 n3
  | all ds h => exact absurd (go e).1 n4
  | «from» i j h =>
    obtain ⟨_, rfl⟩ := go e
    rw [span_int] at h
    simp only [bnd, Bool.and_eq_true, decide_eq_true_eq] at h
    intro a ha
    simp only [List.mem_cons, List.not_mem_nil, or_false] at ha
    rcases ha with rfl | rfl
    · exact .inl ⟨_, rfl, h.1.1, h.1.2⟩
    · exact .inl ⟨_, rfl, h.2.1.1, h.2.1.2⟩
  | row i j d h1 h2 h3 =>
    obtain ⟨_, rfl⟩ := go e
    intro a ha
    simp only [List.mem_cons, List.not_mem_nil, or_false] at ha
    (rcases ha with rfl | rfl | rfl)
    · exact num h1 (show i ≤ 6 by omega) (by decide) (by decide) rfl
    · exact num (show 0 ≤ j by omega) h3 (by decide) (by decide) rfl
    · exact .inr (.inr (List.mem_singleton.mpr rfl))
  | turn x d h =>
    obtain ⟨_, rfl⟩ := go e
    intro a ha
    simp only [List.mem_cons, List.not_mem_nil, or_false] at ha
    rcases ha with rfl | rfl
    · exact .inr (.inl ⟨_, rfl, turn_short _ h⟩)
    · exact .inr (.inr (List.mem_singleton.mpr rfl))
  | keep x n d h h1 h2 =>
    obtain ⟨_, rfl⟩ := go e
    intro a ha
    simp only [List.mem_cons, List.not_mem_nil, or_false] at ha
    (rcases ha with rfl | rfl | rfl)
    · exact .inr (.inl ⟨_, rfl, test_short _ h⟩)
    · exact num h1 h2 (by decide) (by decide) rfl
    · exact .inr (.inr (List.mem_singleton.mpr rfl))
  | «let» x c d h =>
    obtain ⟨e1, rfl⟩ := go e
    intro a ha
    simp only [List.mem_cons, List.not_mem_nil, or_false] at ha
    (rcases ha with rfl | rfl | rfl)
    · exact .inr (.inl ⟨_, rfl, nm_short h⟩)
    · exact .inr (.inr (List.mem_cons_self))
    · exact .inr (.inr (List.mem_cons_of_mem _ List.mem_cons_self))
  | var x h =>
    obtain ⟨e1, rfl⟩ := go e
    intro a ha
    simp only [List.mem_cons, List.not_mem_nil, or_false] at ha
    subst ha
    exact .inr (.inl ⟨_, rfl, nm_short h⟩)
  | upto x h =>
    obtain ⟨e1, rfl⟩ := go e
    intro a ha
    simp only [List.mem_cons, List.not_mem_nil, or_false] at ha
    subst ha
    exact .inr (.inl ⟨_, rfl, nm_short h⟩)
  | times x d h =>
    obtain ⟨e1, rfl⟩ := go e
    intro a ha
    simp only [List.mem_cons, List.not_mem_nil, or_false] at ha
    rcases ha with rfl | rfl
    · exact .inr (.inl ⟨_, rfl, nm_short h⟩)
    · exact .inr (.inr (List.mem_singleton.mpr rfl))
  | grow n c d h1 h2 =>
    obtain ⟨e1, rfl⟩ := go e
    intro a ha
    simp only [List.mem_cons, List.not_mem_nil, or_false] at ha
    (rcases ha with rfl | rfl | rfl)
    · exact num h1 h2 (by decide) (by decide) rfl
    · exact .inr (.inr (List.mem_cons_self))
    · exact .inr (.inr (List.mem_cons_of_mem _ List.mem_cons_self))
  | again =>
    obtain ⟨e1, rfl⟩ := go e
    intro a ha
    cases ha
theorem hf_num30 {i : Int} {lo hi : Int} (h1 : lo ≤ i) (h2 : i ≤ hi) (h3 : -(10 ^ 30) < lo) (h4 : hi < 10 ^ 30) : (numW i).length ≤ 31 := num_short (by omega) (by omega)
theorem flat_bound {n m : Nat} (g : D → List (List Nat)) (hg : ∀ k, fok n k = true → (g k).length ≤ 1100 * gct n k ∧ ∀ w ∈ g k, w.length ≤ 31) : ∀ {l : List D}, (∀ k ∈ l, fok n k = true) → ((l.map (gin g)).flatten).length ≤ 1100 * (l.map (gct n)).sum + 2 * l.length ∧ ∀ w ∈ (l.map (gin g)).flatten, w.length ≤ 31
  | [], _ => ⟨Nat.zero_le _, fun w h => by cases h⟩
  | k :: r, h => by
    obtain ⟨h1, h2⟩ := hg k (h k List.mem_cons_self)
    obtain ⟨h3, h4⟩ := flat_bound (m := m) g hg (l := r) fun k hk => h k (List.mem_cons_of_mem _ hk)
    refine ⟨?_, fun w hw => ?_⟩
    · rw [List.map_cons, List.flatten_cons, List.length_append, List.map_cons, List.sum_cons, List.length_cons]
      have : (gin g k).length = (g k).length + 2 := by simp [gin]
      omega
    · rw [List.map_cons, List.flatten_cons] at hw
      rcases List.mem_append.mp hw with hw | hw
      · rcases List.mem_cons.mp (show w ∈ [40] :: (g k ++ [[41]]) from hw) with e | hw
        · subst e
          decide
        · rcases List.mem_append.mp hw with hw | hw
          · exact h2 w hw
          · rw [List.mem_singleton] at hw
            subst hw
            decide
      · exact h4 w hw
theorem gws_bound : ∀ (n : Nat) (d : D), fok n d = true → (gws n d).length ≤ 1100 * gct n d ∧ ∀ w ∈ gws n d, w.length ≤ 31
  | 0, d, h => by cases h
  | n + 1, d, h => by
    have hk := fok_kids h
    have hg : ∀ k, fok n k = true → (gws n k).length ≤ 1100 * gct n k ∧ ∀ w ∈ gws n k, w.length ≤ 31 := fun k hk => gws_bound n k hk
    obtain ⟨fb1, fb2⟩ := flat_bound (m := 0) (gws n) hg hk
    have hc : gct (n + 1) d = 1 + ((kidsG d).map (gct n)).sum := rfl
    rw [hc]
    have ar : ∀ k ∈ kidsG d, argWs (gws n) k = gin (gws n) k := fun k hk' => argWs_kid (fok_hf (hk k hk'))
    have hf0 := hf_inv (fok_hf h)
    have cons : ∀ {w : List Nat} {body : List (List Nat)} {m : Nat}, gws (n + 1) d = w :: body → w.length ≤ 31 → body.length ≤ m → (∀ x ∈ body, x.length ≤ 31) → m + 1 ≤ 1100 * (1 + ((kidsG d).map (gct n)).sum) → (gws (n + 1) d).length ≤ 1100 * (1 + ((kidsG d).map (gct n)).sum) ∧ ∀ w ∈ gws (n + 1) d, w.length ≤ 31 := fun {w body m} e h1 h2 h3 h4 => by
      rw [e]
      refine ⟨by rw [List.length_cons]; omega, fun x hx => ?_⟩
      (rcases List.mem_cons.mp hx with rfl | hx)
      · exact h1
      · exact h3 x hx
    cases hf0 with
    | just t ht =>
      obtain ⟨_, _, _, h4, h5⟩ := own_words ht
      exact cons (w := W "just") (body := tw 6 t) rfl (W_short _ (by simp)) h4 h5 (by omega)
    | some ts h1 h2 ho =>
      have key : ∀ l : List D, (∀ t ∈ l, own t = true) → ((l.map (tw 6)).flatten).length ≤ 120 * l.length ∧ ∀ x ∈ (l.map (tw 6)).flatten, x.length ≤ 31 := by
        intro l
        induction l with
        | nil => exact fun _ => ⟨Nat.zero_le _, fun x hx => by cases hx⟩
        | cons t r ih =>
          intro hl
          obtain ⟨_, _, _, h4, h5⟩ := own_words (hl t List.mem_cons_self)
          obtain ⟨i1, i2⟩ := ih fun t ht => hl t (List.mem_cons_of_mem _ ht)
          refine ⟨?_, fun x hx => ?_⟩
          · rw [List.map_cons, List.flatten_cons, List.length_append, List.length_cons]
            omega
          · rw [List.map_cons, List.flatten_cons] at hx
            (rcases List.mem_append.mp hx with hx | hx)
            · exact h5 x hx
            · exact i2 x hx
      obtain ⟨k1, k2⟩ := key ts ho
      exact cons (w := W "some") (body := (ts.map (tw 6)).flatten) rfl (W_short _ (by simp)) k1 k2 (by omega)
    | «from» i j hs =>
      rw [span_int] at hs
      simp only [bnd, Bool.and_eq_true, decide_eq_true_eq] at hs
      have n1 := num_short hs.1.1 hs.1.2
      have n2 := num_short hs.2.1.1 hs.2.1.2
      refine cons (w := W "from") (body := [numW i, numW j]) (m := 2) rfl (W_short _ (by simp)) (Nat.le_refl _) ?_ (by omega)
      intro x hx
      (simp only [List.mem_cons, List.not_mem_nil, or_false] at hx)
      rcases hx with rfl | rfl <;> assumption
    | mix ps h1 h2 hp =>
      have e : gws (n + 1) (gnD "mix" [.tup (ps.map fun p => .tup [.int p.1, p.2])]) = W "mix" :: ((ps.map fun p => numW p.1 :: gin (gws n) p.2).flatten) := by
        show W "mix" :: (((ps.map fun p => D.tup [.int p.1, p.2]).map fun p => strOf (fstD p) :: gin (gws n) (sndD p)).flatten) = _
        rw [List.map_map]
        rfl
      have ek : kidsG (gnD "mix" [.tup (ps.map fun p => .tup [.int p.1, p.2])]) = ps.map (·.2) := by
        show ((ps.map fun p => D.tup [.int p.1, p.2]).map sndD) = _
        rw [List.map_map]
        rfl
      have key : ∀ l : List (Int × D), (∀ p ∈ l, 1 ≤ p.1 ∧ p.1 ≤ 9) → (∀ p ∈ l, fok n p.2 = true) → ((l.map fun p => numW p.1 :: gin (gws n) p.2).flatten).length ≤ 1100 * ((l.map (·.2)).map (gct n)).sum + 3 * l.length ∧ ∀ x ∈ (l.map fun p => numW p.1 :: gin (gws n) p.2).flatten, x.length ≤ 31 := by
        intro l
        induction l with
        | nil => exact fun _ _ => ⟨Nat.zero_le _, fun x hx => by cases hx⟩
        | cons p r ih =>
          intro hl hf
          obtain ⟨i1, i2⟩ := ih (fun t ht => hl t (List.mem_cons_of_mem _ ht)) (fun t ht => hf t (List.mem_cons_of_mem _ ht))
          obtain ⟨g1, g2⟩ := flat_bound (m := 0) (gws n) hg (l := [p.2]) (by simpa using hf p List.mem_cons_self)
          have e1 : (([p.2].map (gin (gws n))).flatten) = gin (gws n) p.2 := by simp
          rw [e1] at g1 g2
          have w1 := hf_num30 (hl p List.mem_cons_self).1 (hl p List.mem_cons_self).2 (by decide) (by decide)
          refine ⟨?_, fun x hx => ?_⟩
          · rw [List.map_cons, List.flatten_cons, List.length_append, List.length_cons, List.map_cons, List.map_cons, List.sum_cons, List.length_cons]
            simp only [List.map_cons, List.map_nil, List.sum_cons, List.sum_nil, List.length_cons, List.length_nil] at g1
            omega
          · rw [List.map_cons, List.flatten_cons] at hx
            (rcases List.mem_append.mp hx with hx | hx)
            · rcases List.mem_cons.mp hx with rfl | hx
              · exact w1
              · exact g2 x hx
            · exact i2 x hx
      obtain ⟨k1, k2⟩ := key ps hp fun p hp' => hk p.2 (by rw [ek]; exact List.mem_map.mpr ⟨p, hp', rfl⟩)
      exact cons e (W_short _ (by simp)) k1 k2 (by rw [ek]; omega)
    | all ds h1 =>
      exact cons (w := W "all") (body := (ds.map (gin (gws n))).flatten) rfl (W_short _ (by simp)) fb1 fb2 (by have : (kidsG (gnD "all" [.tup ds])).length = ds.length := rfl; omega)
    | row i j d1 h1 h2 h3 =>
      have e : gws (n + 1) (gnD "row" [.int i, .int j, d1]) = W "row" :: ([numW i, numW j] ++ ([d1].map (gin (gws n))).flatten) := by
        show W "row" :: ([numW i] ++ ([numW j] ++ (argWs (gws n) d1 ++ []))) = _
        rw [ar d1 (List.mem_singleton.mpr rfl)]
        simp
      have n1 := hf_num30 h1 (show i ≤ 6 by omega) (by decide) (by decide)
      have n2 := hf_num30 (show 0 ≤ j by omega) h3 (by decide) (by decide)
      refine cons e (W_short _ (by simp)) (m := 2 + (1100 * ([d1].map (gct n)).sum + 2)) (by rw [List.length_append]; exact Nat.add_le_add (Nat.le_refl _) fb1) (fun x hx => ?_) (by have : ((kidsG (gnD "row" [.int i, .int j, d1])).map (gct n)).sum = ([d1].map (gct n)).sum := rfl; omega)
      (rcases List.mem_append.mp hx with hx | hx)
      · simp only [List.mem_cons, List.not_mem_nil, or_false] at hx
        rcases hx with rfl | rfl <;> assumption
      · exact fb2 x hx
    | turn x1 d1 h1 =>
      have e : gws (n + 1) (gnD "turn" [.str x1, d1]) = W "turn" :: ([x1] ++ ([d1].map (gin (gws n))).flatten) := by
        show W "turn" :: ([x1] ++ (argWs (gws n) d1 ++ [])) = _
        rw [ar d1 (List.mem_singleton.mpr rfl)]
        simp
      have n1 := turn_short _ h1
      refine cons e (W_short _ (by simp)) (m := 1 + (1100 * ([d1].map (gct n)).sum + 2)) (by rw [List.length_append]; exact Nat.add_le_add (Nat.le_refl _) fb1) (fun x hx => ?_) (by have : ((kidsG (gnD "turn" [.str x1, d1])).map (gct n)).sum = ([d1].map (gct n)).sum := rfl; omega)
      (rcases List.mem_append.mp hx with hx | hx)
      · simp only [List.mem_cons, List.not_mem_nil, or_false] at hx
        subst hx
        exact n1
      · exact fb2 x hx
    | keep x1 i d1 h0 h1 h2 =>
      have e : gws (n + 1) (gnD "keep" [.str x1, .int i, d1]) = W "keep" :: ([x1, numW i] ++ ([d1].map (gin (gws n))).flatten) := by
        show W "keep" :: ([x1] ++ ([numW i] ++ (argWs (gws n) d1 ++ []))) = _
        rw [ar d1 (List.mem_singleton.mpr rfl)]
        simp
      have n1 := test_short _ h0
      have n2 := hf_num30 h1 h2 (by decide) (by decide)
      refine cons e (W_short _ (by simp)) (m := 2 + (1100 * ([d1].map (gct n)).sum + 2)) (by rw [List.length_append]; exact Nat.add_le_add (Nat.le_refl _) fb1) (fun x hx => ?_) (by have : ((kidsG (gnD "keep" [.str x1, .int i, d1])).map (gct n)).sum = ([d1].map (gct n)).sum := rfl; omega)
      (rcases List.mem_append.mp hx with hx | hx)
      · simp only [List.mem_cons, List.not_mem_nil, or_false] at hx
        rcases hx with rfl | rfl <;> assumption
      · exact fb2 x hx
    | «let» x1 c1 d1 h1 =>
      have e : gws (n + 1) (gnD "let" [.str x1, c1, d1]) = W "let" :: ([x1] ++ ([c1, d1].map (gin (gws n))).flatten) := by
        show W "let" :: ([x1] ++ (argWs (gws n) c1 ++ (argWs (gws n) d1 ++ []))) = _
        rw [ar c1 List.mem_cons_self, ar d1 (List.mem_cons_of_mem _ List.mem_cons_self)]
        simp
      have n1 := nm_short h1
      refine cons e (W_short _ (by simp)) (m := 1 + (1100 * ([c1, d1].map (gct n)).sum + 4)) (by rw [List.length_append]; exact Nat.add_le_add (Nat.le_refl _) fb1) (fun x hx => ?_) (by have : ((kidsG (gnD "let" [.str x1, c1, d1])).map (gct n)).sum = ([c1, d1].map (gct n)).sum := rfl; omega)
      (rcases List.mem_append.mp hx with hx | hx)
      · simp only [List.mem_cons, List.not_mem_nil, or_false] at hx
        subst hx
        exact n1
      · exact fb2 x hx
    | var x1 h1 =>
      have n1 := nm_short h1
      refine cons (w := W "var") (body := [x1]) (m := 1) rfl (W_short _ (by simp)) (Nat.le_refl _) ?_ (by omega)
      intro x hx
      rw [List.mem_singleton] at hx
      subst hx
      exact n1
    | upto x1 h1 =>
      have n1 := nm_short h1
      refine cons (w := W "upto") (body := [x1]) (m := 1) rfl (W_short _ (by simp)) (Nat.le_refl _) ?_ (by omega)
      intro x hx
      rw [List.mem_singleton] at hx
      subst hx
      exact n1
    | times x1 d1 h1 =>
      have e : gws (n + 1) (gnD "times" [.str x1, d1]) = W "times" :: ([x1] ++ ([d1].map (gin (gws n))).flatten) := by
        show W "times" :: ([x1] ++ (argWs (gws n) d1 ++ [])) = _
        rw [ar d1 (List.mem_singleton.mpr rfl)]
        simp
      have n1 := nm_short h1
      refine cons e (W_short _ (by simp)) (m := 1 + (1100 * ([d1].map (gct n)).sum + 2)) (by rw [List.length_append]; exact Nat.add_le_add (Nat.le_refl _) fb1) (fun x hx => ?_) (by have : ((kidsG (gnD "times" [.str x1, d1])).map (gct n)).sum = ([d1].map (gct n)).sum := rfl; omega)
      (rcases List.mem_append.mp hx with hx | hx)
      · simp only [List.mem_cons, List.not_mem_nil, or_false] at hx
        subst hx
        exact n1
      · exact fb2 x hx
    | grow i c1 d1 h1 h2 =>
      have e : gws (n + 1) (gnD "grow" [.int i, c1, d1]) = W "grow" :: ([numW i] ++ ([c1, d1].map (gin (gws n))).flatten) := by
        show W "grow" :: ([numW i] ++ (argWs (gws n) c1 ++ (argWs (gws n) d1 ++ []))) = _
        rw [ar c1 List.mem_cons_self, ar d1 (List.mem_cons_of_mem _ List.mem_cons_self)]
        simp
      have n1 := hf_num30 h1 h2 (by decide) (by decide)
      refine cons e (W_short _ (by simp)) (m := 1 + (1100 * ([c1, d1].map (gct n)).sum + 4)) (by rw [List.length_append]; exact Nat.add_le_add (Nat.le_refl _) fb1) (fun x hx => ?_) (by have : ((kidsG (gnD "grow" [.int i, c1, d1])).map (gct n)).sum = ([c1, d1].map (gct n)).sum := rfl; omega)
      (rcases List.mem_append.mp hx with hx | hx)
      · simp only [List.mem_cons, List.not_mem_nil, or_false] at hx
        subst hx
        exact n1
      · exact fb2 x hx
    | again =>
      exact cons (w := W "again") (body := []) (m := 0) rfl (W_short _ (by simp)) (Nat.le_refl _) (fun x hx => by cases hx) (by omega)
end K6
set_option maxHeartbeats 4000001
namespace K6
open L2 PySem PySem.Spec PyProof.Rows
section
variable {X : Cx}
def rStrX : List V → Hp → VK → Prop := fun xs H Q => (∃ i, xs = [.int i] ∧ i.natAbs.log2 < 1920 ∧ Q (.str (toString i)) H) ∨ ∃ a, xs = [.str a] ∧ Q (.str a) H
theorem call_strX : CallR X (.type "str") rStrX := CallR.or call_str_int SkE.call_str_str
def iSq (K : PySem.W.Frag) (tl : TE) : TI := fun σ H R => tl σ H fun x H1 => ∃ a, x = .ref a ∧ (((∃ xs, SqL K H1 a xs) ∧ R (Itl K a) H1) ∨ ((∃ xs, SqT K H1 a xs) ∧ R (Itt K a) H1))
theorem pi_sq0 {tg l : Expr} {tl : TE} (hl : PE X l tl) : PI X tg l (iSq X.K tl) := by
  (refine ⟨fun pins s σ H R I h => ?_⟩)
  (refine thn (hl.run pins s σ H _ I h) fun v s1 ⟨x, H1, I1, r1, q1⟩ => ?_)
  obtain ⟨a, e, q1⟩ := q1
  subst e
  cases r1
  rcases q1 with ⟨⟨xs, hq⟩, q⟩ | ⟨⟨xs, hq⟩, q⟩
  · obtain ⟨its, rv, p, hz⟩ := I1.list hq
    (refine wpAny_pyIter_list p.isList ?_)
    (refine ⟨s1.heap.objs.size, [s1.heap.objs.size], _, _, H1, rfl, I1.kept (t' := s1.toks) fun b o e => Heap.get?_push_of_some _ e, turn_list a _, ⟨_, Heap.get?_push_size _ rfl, rfl, rfl⟩, fun b hb => ?_, q⟩)
    (have e : b = s1.heap.objs.size := by simpa using hb)
    subst e
    (exact I1.fpOk (Nat.le_refl _) (I1.hok.fresh (Nat.le_refl _)))
  · obtain ⟨its, rv, p, hz⟩ := I1.tuple hq
    (refine wpAny_pyIter_tuple (show s1.heap.IsTuple a its.toArray from p) ?_)
    (refine ⟨s1.heap.objs.size, [s1.heap.objs.size], _, _, H1, rfl, I1.kept (t' := s1.toks) fun b o e => Heap.get?_push_of_some _ e, turn_tuple a _, ⟨_, Heap.get?_push_size _ rfl, rfl, rfl⟩, fun b hb => ?_, q⟩)
    (have e : b = s1.heap.objs.size := by simpa using hb)
    subst e
    (exact I1.fpOk (Nat.le_refl _) (I1.hok.fresh (Nat.le_refl _)))
theorem pi_sq (K : PySem.W.Frag) {tg l : Expr} {tl : TE} (hl : PE X l tl) (h : X.K = K := by rfl) : PI X tg l (iSq K tl) := by subst h; exact pi_sq0 hl
end
def sp_gw (n : Nat) : Sp := fun vs H Q _ => ∃ v d, vs = [v] ∧ Rep H v d ∧ fok n d = true ∧ gct n d ≤ 24 ∧ ∀ H' a, Same H H' → H a = none → H' a = some (.lst (wStrs (gws n d))) → Q (.ref a) H'
def sp_gin (n : Nat) : Sp := fun vs H Q _ => ∃ v d, vs = [v] ∧ Rep H v d ∧ fok n d = true ∧ gct n d ≤ 24 ∧ ∀ H' a, Same H H' → H a = none → H' a = some (.lst (wStrs (gin (gws n) d))) → Q (.ref a) H'
theorem sp_gw_len {n : Nat} : ∀ vs H Q E, sp_gw n vs H Q E → vs.length = 1 := fun vs H Q E h => by
  obtain ⟨_, _, rfl, _⟩ := h
  rfl
theorem wStrs_len (ws : List (List Nat)) : (wStrs ws).length = ws.length := by unfold wStrs; rw [List.length_map]
theorem flat_mem {α β : Type} {f : α → List β} {l : List α} {i : Nat} {x : α} (h : l[i]? = some x) : ((l.take (i + 1)).map f).flatten = ((l.take i).map f).flatten ++ f x := by
  rw [List.take_succ, h, List.map_append, List.flatten_append]
  simp
theorem flat_len {α β : Type} {f : α → List β} (l : List α) (i : Nat) : (((l.take i).map f).flatten).length ≤ ((l.map f).flatten).length := by
  have h : (l.map f).flatten = ((l.take i).map f).flatten ++ ((l.drop i).map f).flatten := by
    rw [← List.flatten_append, ← List.map_append, List.take_append_drop]
  rw [h, List.length_append]
  omega
theorem flat_len2 {α β : Type} {f : α → List β} {l : List α} {i : Nat} {x : α} (h : l[i]? = some x) : (((l.take i).map f).flatten).length + (f x).length ≤ ((l.map f).flatten).length := by
  rw [← List.length_append, ← flat_mem h]
  exact flat_len l (i + 1)
theorem log30 {i : Int} (h1 : -(10 ^ 30) < i) (h2 : i < 10 ^ 30) : i.natAbs.log2 < 1920 := log_num (by
  show (decide (-(10 ^ 60) < i) && decide (i < 10 ^ 60)) = true
  rw [decide_eq_true (by omega), decide_eq_true (by omega)]
  rfl)
theorem gws_len {n : Nat} {d : D} (h : fok n d = true) (hc : gct n d ≤ 24) : (gws n d).length ≤ 26400 := by
  have := (gws_bound n d h).1
  omega
theorem gct_kid {n : Nat} {d k : D} (hk : k ∈ kidsG d) : gct n k < gct (n + 1) d := by
  show gct n k < 1 + ((kidsG d).map (gct n)).sum
  have : gct n k ≤ ((kidsG d).map (gct n)).sum := by
    generalize kidsG d = l at hk
    induction l with
    | nil => cases hk
    | cons e r ih =>
      (rw [List.map_cons, List.sum_cons])
      rcases List.mem_cons.mp hk with z | z
      · rw [z]
        omega
      · have := ih z
        omega
  omega
section
variable {P : Program}
variable {w : World} {K : PySem.W.Frag} {mg : Str → Option Value} {base : Heap}
abbrev s_inner_words : Stmt := top 85
abbrev N_inner_words : List Str := ["generator"]
theorem sc_inner_words : FnScope N_inner_words ["generator"] (defScope s_inner_words) := ⟨rfl, rfl, rfl, by decide +kernel, rfl, by decide +kernel, by decide +kernel⟩
theorem cl_inner_words (F : Df K mg "inner_words" s_inner_words ["generator"]) (T : Tx mg) {n k : Nat} (c_generator_words : Cl P w K mg base k "generator_words" (sp_gw n)) : Cl P w K mg base (k + 1) "inner_words" (sp_gin n) := by
  refine F.cl sc_inner_words (fun vs H Q E h => by obtain ⟨_, _, rfl, _⟩ := h; rfl) (fun f cdv A outer s H vs Q E hr h => ?_)
  have nd := sc_inner_words.nd
  obtain ⟨v, d, rfl, hd, hf, hc, k⟩ := h
  refine ⟨_, (pss_one (ps_ret (pe_op op_cat (pe_op op_cat (pe_lst (pa_cons pe_str pa_nil)) (pf c_generator_words hr (by omega) rfl (pa_cons (pv 0) pa_nil))) (pe_lst (pa_cons pe_str pa_nil))))), ?_⟩
  have hl := gws_len hf hc
  refine ⟨lsz, fun A0 hA => ⟨v, rfl, v, d, rfl, hd.same ((Same.refl _).new hA), hf, hc, fun H2 L s2 nL eL => ?_⟩⟩
  have s02 := ((Same.refl H).new hA).trans s2
  refine ⟨A0, L, _, _, rfl, rfl, s2 _ _ upd_same, eL, ?_, fun B hB => ⟨lsz, fun B2 hB2 => ⟨B, B2, _, _, rfl, rfl, up_ne upd_same hB2, upd_same, ?_, fun R hR => k _ R ?_ ?_ ?_⟩⟩⟩
  · rw [wStrs_len]
    exact sizes' (by show 1 + _ ≤ _; omega)
  · rw [List.length_append, wStrs_len]
    exact sizes' (by show 1 + _ + 1 ≤ _; omega)
  · exact ((s02.new hB).new hB2).new hR
  · exact ((s02.new hB).new hB2).free hR
  · rw [upd_same]
    have e : gin (gws n) d = [[40]] ++ (gws n d ++ [[41]]) := rfl
    rw [e, wStrs_app, wStrs_app, ← List.append_assoc]
    rfl
abbrev s_generator_words : Stmt := top 86
abbrev N_generator_words : List Str := ["generator", "word", "rest", "thing", "one", "weight", "part", "found"]
theorem sc_generator_words : FnScope N_generator_words ["generator"] (defScope s_generator_words) := ⟨rfl, rfl, rfl, by decide +kernel, rfl, by decide +kernel, by decide +kernel⟩
theorem cl_generator_words (F : Df K mg "generator_words" s_generator_words ["generator"]) (Fi : Df K mg "inner_words" s_inner_words ["generator"]) (T : Tx mg) (c_thing_words : Cl P w K mg base 8 "thing_words" (sp_tw 6)) : ∀ n, Cl P w K mg base (9 + 2 * n) "generator_words" (sp_gw n)
  | 0 => F.cl (k := 8) sc_generator_words sp_gw_len (fun f cdv A outer s H vs Q E hr h => by
      obtain ⟨v, d, rfl, hd, ht, _⟩ := h
      cases ht)
  | n + 1 => by
    have c_inner_words := cl_inner_words Fi T (cl_generator_words F Fi T c_thing_words n)
    refine Cl.mono (F.cl (k := 10 + 2 * n) sc_generator_words sp_gw_len (fun f cdv A outer s H vs Q E hr h => ?_)) (by omega)
    have nd := sc_generator_words.nd
    obtain ⟨v, d, rfl, hd, hfk, hc, k⟩ := h
    have hkids := fok_kids hfk
    have hcl := fun (q : D) (hq : q ∈ kidsG d) => gct_kid (n := n) hq
    have htot := gws_len hfk hc
    obtain ⟨wd, args, rfl, hl, hw⟩ := hf_split (fok_hf hfk)
    refine ⟨_, (pss_cons (ps_asg (pv 0) (pg_star K (i := 1) (j := 2) rfl nd))
      (pss_cons (ps_if (pt_cmpR op_eq (pv 1) pe_str (nomark _)) (pss_one (ps_ret (pe_op op_cat (pe_lst (pa_cons (pv 1) pa_nil)) (pf c_thing_words hr (by omega) rfl (pa_cons (pe_ix (ix_listK K) (pv 2) pe_int (fun _ _ => rfl)) pa_nil))))) pss_nil)
      (pss_cons (ps_if (pt_cmpR op_eq (pv 1) pe_str (nomark _)) (pss_one (ps_ret (pe_op op_cat (pe_lst (pa_cons (pv 1) pa_nil)) (pe_lc2 (vs1 := [4]) (own := [("thing", 3), ("one", 4)]) rfl nd (pi_tupK K (pe_ix (ix_listK K) (pv 2) pe_int (fun _ _ => rfl))) (blkOk_by (own := [("thing", 3), ("one", 4)]) (N := N_generator_words) (sc := defScope s_generator_words) (by decide +kernel)) (by decide) (fun _ _ _ _ _ => (pgn 3 nd)) (fun _ _ _ _ _ => pts_nil) (fun _ _ _ _ _ => (pi_listK K (pf c_thing_words hr (by omega) rfl (pa_cons (pv 3) pa_nil)))) (fun _ _ _ _ _ => (pgn 4 nd)) (fun _ _ _ _ _ => pts_nil) (fun _ _ _ _ _ => (pv 4)))))) pss_nil)
      (pss_cons (ps_if (pt_cmpR op_eq (pv 1) pe_str (nomark _)) (pss_one (ps_ret (pe_op op_cat (pe_lst (pa_cons (pv 1) pa_nil)) (pe_lc2 (vs1 := [4]) (own := [("weight", 5), ("part", 6), ("one", 4)]) rfl nd (pi_tupK K (pe_ix (ix_listK K) (pv 2) pe_int (fun _ _ => rfl))) (blkOk_by (own := [("weight", 5), ("part", 6), ("one", 4)]) (N := N_generator_words) (sc := defScope s_generator_words) (by decide +kernel)) (by decide) (fun _ _ _ _ _ => (pg_tupK (n := 2) K rfl (pgs_cons (pgn 5 nd) (pgs_cons (pgn 6 nd) pgs_nil)))) (fun _ _ _ _ _ => pts_nil) (fun _ _ _ _ _ => (pi_listK K (pe_op op_cat (pe_lst (pa_cons (pe_callTy call_str_int rfl T.n_str bt_str (pa_cons (pv 5) pa_nil)) pa_nil)) (pf c_inner_words hr (by omega) rfl (pa_cons (pv 6) pa_nil))))) (fun _ _ _ _ _ => (pgn 4 nd)) (fun _ _ _ _ _ => pts_nil) (fun _ _ _ _ _ => (pv 4)))))) pss_nil)
      (pss_cons (ps_if (pt_cmpR op_eq (pv 1) pe_str (nomark _)) (pss_one (ps_ret (pe_op op_cat (pe_lst (pa_cons (pv 1) pa_nil)) (pe_lc2 (vs1 := [4]) (own := [("part", 6), ("one", 4)]) rfl nd (pi_tupK K (pe_ix (ix_listK K) (pv 2) pe_int (fun _ _ => rfl))) (blkOk_by (own := [("part", 6), ("one", 4)]) (N := N_generator_words) (sc := defScope s_generator_words) (by decide +kernel)) (by decide) (fun _ _ _ _ _ => (pgn 6 nd)) (fun _ _ _ _ _ => pts_nil) (fun _ _ _ _ _ => (pi_listK K (pf c_inner_words hr (by omega) rfl (pa_cons (pv 6) pa_nil)))) (fun _ _ _ _ _ => (pgn 4 nd)) (fun _ _ _ _ _ => pts_nil) (fun _ _ _ _ _ => (pv 4)))))) pss_nil)
      (pss_cons (pset 7 nd (pe_lst (pa_cons (pv 1) pa_nil)))
      (pss_cons (ps_for (passes_of rfl) rfl (pi_listK K (pv 2)) (pgn 6 nd) (pss_one (pset 7 nd (pe_op op_cat (pv 7) (pe_ifExp (pt_val (pe_callB (call_isDK K) rfl T.n_isinstance bb_isinstance (pa_cons (pv 6) (pa_cons (pty (n := "tuple") rfl T.n_tuple bt_tuple) pa_nil)))) (pf c_inner_words hr (by omega) rfl (pa_cons (pv 6) pa_nil)) (pe_lst (pa_cons (pe_callTy call_strX rfl T.n_str bt_str (pa_cons (pv 6) pa_nil)) pa_nil)))))))
      (pss_one (ps_ret (pv 7)))))))))), ?_⟩
    obtain ⟨p, xs, rfl, ep, hx⟩ := hd.tup_inv
    obtain ⟨x0, rst, rfl⟩ : ∃ x r, xs = x :: r := by
      cases xs with
      | nil => exact absurd hx.1 (by simp)
      | cons x r => (exact ⟨x, r, rfl⟩)
    obtain rfl := rep_str (hx.2 0 x0 _ rfl rfl)
    have hrs : Reps H rst args := ⟨by simpa using hx.1, fun i x d h1 h2 => hx.2 (i + 1) x d (by simpa using h1) (by simpa using h2)⟩
    have l4 : lenOf wd ≤ 4 := by
      unfold lenOf
      repeat' split
      all_goals omega
    refine ⟨_, rfl, p, .str (S wd), rst, rfl, sqt ep, by rw [hrs.1]; omega, fun R hR => ?_⟩
    have s0 : Same H (upd H R (.lst rst)) := (Same.refl H).new hR
    have hrs2 := hrs.same s0
    have eR : (upd H R (.lst rst)) R = some (.lst rst) := upd_same
    generalize (upd H R (.lst rst)) = H1 at *
    have res : ∀ (body : List (List Nat)), gws (n + 1) (.tup (.str wd :: args)) = wd :: body → ∀ H3 (A0 L : Addr), Same H H3 → H3 A0 = some (.lst [.str (S wd)]) → H3 L = some (.lst (wStrs body)) → ([V.str (S wd)] : List V).length + (wStrs body).length ≤ sizeLine ∧ ∀ q, H3 q = none → Q (.ref q) (upd H3 q (.lst ([V.str (S wd)] ++ wStrs body))) := fun body e H3 A0 L s3 eA eL => by
      refine ⟨?_, fun q hq => k _ q (s3.new hq) (s3.free hq) ?_⟩
      · rw [wStrs_len]
        rw [e, List.length_cons] at htot
        exact sizes' (by show 1 + _ ≤ _; omega)
      · rw [upd_same, e]
        rfl
    (refine ⟨_, rfl, rfl, _, rfl, ?_⟩)
    rw [dstr wd "just"]
    by_cases e1 : wd = W "just"
    · rw [decide_eq_true e1]
      obtain ⟨t, rfl⟩ := len_one (hl.trans (by rw [e1]; decide +kernel))
      have ho : own t = true := by subst e1; exact hw
      obtain ⟨_, h3, h4, h5, _⟩ := own_words ho
      obtain ⟨x1, ex1, r1⟩ := hrs2.get (i := 0) (d := t) rfl
      have eg : gws (n + 1) (.tup (.str wd :: [t])) = wd :: tw 6 t := by subst e1; rfl
      refine iteT ⟨_, rfl, lsz, fun A0 hA => ⟨_, rfl, R, rst, 0, x1, rfl, rfl, sql (up_ne eR hA), atI_nat (j := 0) ex1, x1, t, rfl, r1.same ((Same.refl _).new hA), h3, by omega, fun H2 L s2 nL eL => ?_⟩⟩
      obtain ⟨z1, z2⟩ := res _ eg H2 A0 L ((s0.new hA).trans s2) (s2 _ _ upd_same) eL
      exact ⟨A0, L, _, _, rfl, rfl, s2 _ _ upd_same, eL, z1, z2⟩
    rw [decide_eq_false e1]
    refine iteF ⟨_, rfl, rfl, _, rfl, ?_⟩
    rw [dstr wd "some"]
    by_cases e2 : wd = W "some"
    · rw [decide_eq_true e2]
      obtain ⟨t, rfl⟩ := len_one (hl.trans (by rw [e2]; decide +kernel))
      have hso : somesOk t = true := by subst e2; exact hw
      obtain ⟨ts, rfl, l1, l2, hts⟩ : ∃ ts, t = .tup ts ∧ 1 ≤ ts.length ∧ ts.length ≤ 9 ∧ ∀ t ∈ ts, own t = true := by
        cases t with
        | tup ds =>
          rw [somesOk_tup, Bool.and_eq_true] at hso
          obtain ⟨_, e, l1, l2⟩ := mny_inv hso.1
          cases e
          exact ⟨ds, rfl, by omega, by omega, List.all_eq_true.mp hso.2⟩
        | _ => cases hso
      obtain ⟨x1, ex1, r1⟩ := hrs2.get (i := 0) (d := .tup ts) rfl
      obtain ⟨b, ys, rfl, eb, hy⟩ := r1.tup_inv
      have eg : gws (n + 1) (.tup (.str wd :: [.tup ts])) = wd :: (ts.map (tw 6)).flatten := by subst e2; rfl
      rw [eg, List.length_cons] at htot
      refine iteT ⟨_, rfl, lsz, fun A0 hA => ⟨_, rfl, R, rst, 0, _, rfl, rfl, sql (up_ne eR hA), atI_nat (j := 0) ex1, b, rfl, ⟨ys, sqt (up_ne eb hA)⟩, fun C hC => ?_⟩⟩
      have sA : Same H1 (upd H1 A0 (.lst [.str (S wd)])) := (Same.refl _).new hA
      have eA : (upd H1 A0 (.lst [.str (S wd)])) A0 = some (.lst [.str (S wd)]) := upd_same
      have ebA := sA _ _ eb
      generalize (upd H1 A0 (.lst [.str (S wd)])) = H2 at *
      refine wk_it (walk_tup (xs := ys)) (fun i H => Same H2 H ∧ H C = some (.lst (wStrs ((ts.take i).map (tw 6)).flatten))) ⟨(Same.refl _).new hC, upd_same⟩ (fun i H _ p => sqt (p.1 _ _ ebA)) ?_ ?_
      · rintro i x H3 H4 hi ⟨s3, e3⟩ ⟨rfl, hxi⟩
        obtain ⟨di, hdi, ri⟩ := hy.getV hxi
        obtain ⟨_, h3, h4, h5, _⟩ := own_words (hts di (List.mem_of_getElem? hdi))
        refine ⟨rfl, x, rfl, x, di, rfl, (ri.same sA).same s3, h3, by omega, fun H5 L s5 nL eL => ⟨L, rfl, ⟨_, sql eL⟩, ?_⟩⟩
        have l0 := flat_len2 (f := tw 6) hdi
        have nLC : C ≠ L := ne_of_none e3 nL
        refine wk_it (walk_list (xs := wStrs (tw 6 di))) (fun j H => Same H2 H ∧ H L = some (.lst (wStrs (tw 6 di))) ∧ H C = some (.lst (wStrs (((ts.take i).map (tw 6)).flatten ++ ((tw 6 di)).take j)))) ⟨s3.trans s5, eL, by rw [List.take_zero, List.append_nil]; exact s5 _ _ e3⟩ (fun j H _ p => sql p.2.1) ?_ ?_
        · rintro j y H6 H7 hj ⟨s6, eL6, e6⟩ ⟨rfl, hy⟩
          obtain ⟨wd, hwd, rfl⟩ := wStrs_get hy
          refine ⟨rfl, _, rfl, _, e6, ?_, s6.put hC, ?_, ?_⟩
          · unfold wStrs
            rw [List.length_map, List.length_append, List.length_take]
            exact sizes (by omega)
          · rw [upd_ne (Ne.symm nLC)]
            exact eL6
          · rw [upd_same, List.take_succ, hwd, ← List.append_assoc, wStrs_app _ (Option.toList _)]
            rfl
        · rintro H6 ⟨s6, eL6, e6⟩
          refine ⟨s6, ?_⟩
          rw [e6, flat_mem (f := tw 6) hdi, show ((tw 6 di)).take (wStrs (tw 6 di)).length = (tw 6 di) from List.take_of_length_le (by unfold wStrs; rw [List.length_map]; exact Nat.le_refl _)]
      · rintro H3 ⟨s3, e3⟩
        rw [hy.1, List.take_length] at e3
        obtain ⟨z1, z2⟩ := res _ eg H3 A0 C (s0.trans (sA.trans s3)) (s3 _ _ eA) e3
        exact ⟨A0, C, _, _, rfl, rfl, s3 _ _ eA, e3, z1, z2⟩
    rw [decide_eq_false e2]
    refine iteF ⟨_, rfl, rfl, _, rfl, ?_⟩
    rw [dstr wd "mix"]
    by_cases e3 : wd = W "mix"
    · rw [decide_eq_true e3]
      obtain ⟨ps, rfl, l1, l2, hps⟩ : ∃ ps : List (Int × D), args = [.tup (ps.map fun p => .tup [.int p.1, p.2])] ∧ 1 ≤ ps.length ∧ ps.length ≤ 6 ∧ ∀ p ∈ ps, 1 ≤ p.1 ∧ p.1 ≤ 9 := by subst e3; exact hf_mix hl hw
      obtain ⟨x1, ex1, r1⟩ := hrs2.get (i := 0) (d := .tup _) rfl
      obtain ⟨b, ys, rfl, eb, hy⟩ := r1.tup_inv
      have ek : kidsG (.tup (.str wd :: [.tup (ps.map fun p => .tup [.int p.1, p.2])])) = ps.map (·.2) := by
        subst e3
        show ((ps.map fun p => D.tup [.int p.1, p.2]).map sndD) = _
        rw [List.map_map]
        rfl
      have eg : gws (n + 1) (.tup (.str wd :: [.tup (ps.map fun p => .tup [.int p.1, p.2])])) = wd :: (ps.map fun p => numW p.1 :: gin (gws n) p.2).flatten := by
        subst e3
        show W "mix" :: (((ps.map fun p => D.tup [.int p.1, p.2]).map fun p => strOf (fstD p) :: gin (gws n) (sndD p)).flatten) = _
        rw [List.map_map]
        rfl
      rw [eg, List.length_cons] at htot
      refine iteT ⟨_, rfl, lsz, fun A0 hA => ⟨_, rfl, R, rst, 0, _, rfl, rfl, sql (up_ne eR hA), atI_nat (j := 0) ex1, b, rfl, ⟨ys, sqt (up_ne eb hA)⟩, fun C hC => ?_⟩⟩
      have sA : Same H1 (upd H1 A0 (.lst [.str (S wd)])) := (Same.refl _).new hA
      have eA : (upd H1 A0 (.lst [.str (S wd)])) A0 = some (.lst [.str (S wd)]) := upd_same
      have ebA := sA _ _ eb
      generalize (upd H1 A0 (.lst [.str (S wd)])) = H2 at *
      refine wk_it (walk_tup (xs := ys)) (fun i H => Same H2 H ∧ H C = some (.lst (wStrs ((ps.take i).map fun p => numW p.1 :: gin (gws n) p.2).flatten))) ⟨(Same.refl _).new hC, upd_same⟩ (fun i H _ p => sqt (p.1 _ _ ebA)) ?_ ?_
      · rintro i x H3 H4 hi ⟨s3, e3'⟩ ⟨rfl, hxi⟩
        obtain ⟨di, hdi, ri⟩ := hy.getV hxi
        rw [List.getElem?_map] at hdi
        cases ep2 : ps[i]? with
        | none => rw [ep2] at hdi; cases hdi
        | some q =>
        rw [ep2] at hdi
        obtain rfl : D.tup [.int q.1, q.2] = di := Option.some.inj hdi
        have hq := hps q (List.mem_of_getElem? ep2)
        have hqk : q.2 ∈ kidsG (.tup (.str wd :: [.tup (ps.map fun p => .tup [.int p.1, p.2])])) := by rw [ek]; exact List.mem_map.mpr ⟨q, List.mem_of_getElem? ep2, rfl⟩
        have hq3 := hcl _ hqk
        obtain ⟨c, y0, y1, rfl, ec, ry0, ry1⟩ := tup2_inv ((ri.same sA).same s3)
        cases ry0
        have lq := gws_len (hkids _ hqk) (by omega)
        refine ⟨c, _, rfl, sqt ec, rfl, _, [y1], rfl, y1, [], rfl, rfl, rfl, _, rfl, _, rfl, log30 (by omega) (by omega), lsz, fun B hB => ⟨_, rfl, y1, q.2, rfl, ry1.same ((Same.refl _).new hB), hkids _ hqk, by omega, fun H5 L0 s5 nL0 eL0 => ⟨B, L0, _, _, rfl, rfl, s5 _ _ upd_same, eL0, ?_, fun L nL => ⟨L, rfl, ⟨_, sql upd_same⟩, ?_⟩⟩⟩⟩
        · rw [wStrs_len]
          exact sizes' (by show 1 + ([40] :: (gws n q.2 ++ [[41]])).length ≤ _; rw [List.length_cons, List.length_append]; simp; omega)
        have l0 := flat_len2 (f := fun p : Int × D => numW p.1 :: gin (gws n) p.2) ep2
        have s36 : Same H4 (upd H5 L (.lst ([V.str (Str.ofString (toString q.1))] ++ wStrs (gin (gws n) q.2)))) := (((Same.refl _).new hB).trans s5).new nL
        have eL : (upd H5 L (.lst ([V.str (Str.ofString (toString q.1))] ++ wStrs (gin (gws n) q.2)))) L = some (.lst (wStrs (numW q.1 :: gin (gws n) q.2))) := by
          rw [upd_same, numS]
          rfl
        have nLC : C ≠ L := ne_of_none ((((Same.refl _).new hB).trans s5) _ _ e3') nL
        have el1 : ([V.str (Str.ofString (toString q.1))] ++ wStrs (gin (gws n) q.2)) = wStrs (numW q.1 :: gin (gws n) q.2) := by
          rw [numS]
          rfl
        generalize (upd H5 L (.lst ([V.str (Str.ofString (toString q.1))] ++ wStrs (gin (gws n) q.2)))) = H5' at *
        refine wk_it (walk_list (xs := wStrs (numW q.1 :: gin (gws n) q.2))) (fun j H => Same H2 H ∧ H L = some (.lst (wStrs (numW q.1 :: gin (gws n) q.2))) ∧ H C = some (.lst (wStrs (((ps.take i).map fun p => numW p.1 :: gin (gws n) p.2).flatten ++ ((numW q.1 :: gin (gws n) q.2)).take j)))) ⟨s3.trans s36, eL, by rw [List.take_zero, List.append_nil]; exact s36 _ _ e3'⟩ (fun j H _ p => sql p.2.1) ?_ ?_
        · rintro j y H6 H7 hj ⟨s6, eL6, e6⟩ ⟨rfl, hy⟩
          obtain ⟨wd, hwd, rfl⟩ := wStrs_get hy
          refine ⟨rfl, _, rfl, _, e6, ?_, s6.put hC, ?_, ?_⟩
          · unfold wStrs
            rw [List.length_map, List.length_append, List.length_take]
            exact sizes (by omega)
          · rw [upd_ne (Ne.symm nLC)]
            exact eL6
          · rw [upd_same, List.take_succ, hwd, ← List.append_assoc, wStrs_app _ (Option.toList _)]
            rfl
        · rintro H6 ⟨s6, eL6, e6⟩
          refine ⟨s6, ?_⟩
          rw [e6, flat_mem (f := fun p : Int × D => numW p.1 :: gin (gws n) p.2) ep2, show ((numW q.1 :: gin (gws n) q.2)).take (wStrs (numW q.1 :: gin (gws n) q.2)).length = (numW q.1 :: gin (gws n) q.2) from List.take_of_length_le (by unfold wStrs; rw [List.length_map]; exact Nat.le_refl _)]
      · rintro H3 ⟨s3, e3'⟩
        rw [show ys.length = ps.length by rw [hy.1, List.length_map], List.take_length] at e3'
        obtain ⟨z1, z2⟩ := res _ eg H3 A0 C (s0.trans (sA.trans s3)) (s3 _ _ eA) e3'
        exact ⟨A0, C, _, _, rfl, rfl, s3 _ _ eA, e3', z1, z2⟩
    rw [decide_eq_false e3]
    refine iteF ⟨_, rfl, rfl, _, rfl, ?_⟩
    rw [dstr wd "all"]
    by_cases e4 : wd = W "all"
    · rw [decide_eq_true e4]
      obtain ⟨ts, rfl, l2⟩ : ∃ ds : List D, args = [.tup ds] ∧ ds.length ≤ 6 := by subst e4; exact hf_all hl hw
      obtain ⟨x1, ex1, r1⟩ := hrs2.get (i := 0) (d := .tup ts) rfl
      obtain ⟨b, ys, rfl, eb, hy⟩ := r1.tup_inv
      have ek : kidsG (.tup (.str wd :: [.tup ts])) = ts := by subst e4; rfl
      have eg : gws (n + 1) (.tup (.str wd :: [.tup ts])) = wd :: (ts.map (gin (gws n))).flatten := by subst e4; rfl
      rw [eg, List.length_cons] at htot
      refine iteT ⟨_, rfl, lsz, fun A0 hA => ⟨_, rfl, R, rst, 0, _, rfl, rfl, sql (up_ne eR hA), atI_nat (j := 0) ex1, b, rfl, ⟨ys, sqt (up_ne eb hA)⟩, fun C hC => ?_⟩⟩
      have sA : Same H1 (upd H1 A0 (.lst [.str (S wd)])) := (Same.refl _).new hA
      have eA : (upd H1 A0 (.lst [.str (S wd)])) A0 = some (.lst [.str (S wd)]) := upd_same
      have ebA := sA _ _ eb
      generalize (upd H1 A0 (.lst [.str (S wd)])) = H2 at *
      refine wk_it (walk_tup (xs := ys)) (fun i H => Same H2 H ∧ H C = some (.lst (wStrs ((ts.take i).map (gin (gws n))).flatten))) ⟨(Same.refl _).new hC, upd_same⟩ (fun i H _ p => sqt (p.1 _ _ ebA)) ?_ ?_
      · rintro i x H3 H4 hi ⟨s3, e3'⟩ ⟨rfl, hxi⟩
        obtain ⟨di, hdi, ri⟩ := hy.getV hxi
        have hqk : di ∈ kidsG (.tup (.str wd :: [.tup ts])) := by rw [ek]; exact List.mem_of_getElem? hdi
        have hq3 := hcl _ hqk
        refine ⟨rfl, x, rfl, x, di, rfl, (ri.same sA).same s3, hkids _ hqk, by omega, fun H5 L s5 nL eL => ⟨L, rfl, ⟨_, sql eL⟩, ?_⟩⟩
        have l0 := flat_len2 (f := gin (gws n)) hdi
        have nLC : C ≠ L := ne_of_none e3' nL
        refine wk_it (walk_list (xs := wStrs (gin (gws n) di))) (fun j H => Same H2 H ∧ H L = some (.lst (wStrs (gin (gws n) di))) ∧ H C = some (.lst (wStrs (((ts.take i).map (gin (gws n))).flatten ++ ((gin (gws n) di)).take j)))) ⟨s3.trans s5, eL, by rw [List.take_zero, List.append_nil]; exact s5 _ _ e3'⟩ (fun j H _ p => sql p.2.1) ?_ ?_
        · rintro j y H6 H7 hj ⟨s6, eL6, e6⟩ ⟨rfl, hy⟩
          obtain ⟨wd, hwd, rfl⟩ := wStrs_get hy
          refine ⟨rfl, _, rfl, _, e6, ?_, s6.put hC, ?_, ?_⟩
          · unfold wStrs
            rw [List.length_map, List.length_append, List.length_take]
            exact sizes (by omega)
          · rw [upd_ne (Ne.symm nLC)]
            exact eL6
          · rw [upd_same, List.take_succ, hwd, ← List.append_assoc, wStrs_app _ (Option.toList _)]
            rfl
        · rintro H6 ⟨s6, eL6, e6⟩
          refine ⟨s6, ?_⟩
          rw [e6, flat_mem (f := gin (gws n)) hdi, show ((gin (gws n) di)).take (wStrs (gin (gws n) di)).length = (gin (gws n) di) from List.take_of_length_le (by unfold wStrs; rw [List.length_map]; exact Nat.le_refl _)]
      · rintro H3 ⟨s3, e3'⟩
        rw [hy.1, List.take_length] at e3'
        obtain ⟨z1, z2⟩ := res _ eg H3 A0 C (s0.trans (sA.trans s3)) (s3 _ _ eA) e3'
        exact ⟨A0, C, _, _, rfl, rfl, s3 _ _ eA, e3', z1, z2⟩
    rw [decide_eq_false e4]
    have eg : gws (n + 1) (.tup (.str wd :: args)) = wd :: (args.map (argWs (gws n))).flatten := by
      show wd :: (if wd = W "just" then _ else if wd = W "some" then _ else if wd = W "mix" then _ else if wd = W "all" then _ else _) = _
      rw [if_neg e1, if_neg e2, if_neg e3, if_neg e4]
    rw [eg, List.length_cons] at htot
    have hargs := hf_args hl hw e1 e2 e3 e4
    refine iteF ⟨_, rfl, lsz, fun A0 hA => ⟨_, rfl, R, rfl, ⟨rst, sql (up_ne eR hA)⟩, ?_⟩⟩
    have sA : Same H1 (upd H1 A0 (.lst [.str (S wd)])) := (Same.refl _).new hA
    have eA : (upd H1 A0 (.lst [.str (S wd)])) A0 = some (.lst [.str (S wd)]) := upd_same
    generalize (upd H1 A0 (.lst [.str (S wd)])) = H2 at *
    have s2 := s0.trans sA
    refine for_it (walk_list (xs := rst)) (fun i σ' H' => Same H1 H' ∧ ∃ (B : Addr) (z : Option V), σ' = [some (.ref p), some (.str (S wd)), some (.ref R), none, none, none, z, some (.ref B)] ∧ H B = none ∧ H' B = some (.lst (wStrs (wd :: ((args.take i).map (argWs (gws n))).flatten)))) ⟨sA, A0, none, rfl, s0.free hA, eA⟩ (fun i σ' H' _ p => sql (p.1 _ _ eR)) ?_ ?_
    · rintro i x σ' H3 H4 hi ⟨s3, B, z, rfl, nB, eB⟩ ⟨rfl, hxi⟩
      obtain ⟨di, hdi, ri⟩ := hrs2.getV hxi
      have ri3 := ri.same s3
      have l0 := flat_len2 (f := argWs (gws n)) hdi
      have e9 := flat_mem (f := argWs (gws n)) hdi
      refine ⟨_, rfl, x, rfl, x, di, "tuple", rfl, by decide, ri3, _, rfl, ?_⟩
      have fin : ∀ H5 L, Same H4 H5 → H5 L = some (.lst (wStrs (argWs (gws n) di))) → ∃ l b xs zs, V.ref B = .ref l ∧ V.ref L = .ref b ∧ H5 l = some (.lst xs) ∧ H5 b = some (.lst zs) ∧ xs.length + zs.length ≤ sizeLine ∧ ∀ q, H5 q = none → (Same H1 (upd H5 q (.lst (xs ++ zs))) ∧ ∃ (B : Addr) (z : Option V), ([some (V.ref p), some (V.str (S wd)), some (V.ref R), none, none, none, some x, some (V.ref q)] : List (Option V)) = [some (.ref p), some (.str (S wd)), some (.ref R), none, none, none, z, some (.ref B)] ∧ H B = none ∧ (upd H5 q (.lst (xs ++ zs))) B = some (.lst (wStrs (wd :: ((args.take (i + 1)).map (argWs (gws n))).flatten)))) := fun H5 L s5 eL => by
        refine ⟨B, L, _, _, rfl, rfl, s5 _ _ eB, eL, ?_, fun q hq => ⟨(s3.trans s5).new hq, q, _, rfl, (s0.trans (s3.trans s5)).free hq, ?_⟩⟩
        · rw [wStrs_len, wStrs_len, List.length_cons]
          exact sizes' (by omega)
        · rw [upd_same, e9, ← wStrs_app]
          rfl
      rcases hargs di (List.mem_of_getElem? hdi) with ⟨j, rfl, j1, j2⟩ | ⟨z2, rfl, lz⟩ | hqk
      · cases ri3
        refine iteF ⟨_, rfl, .inl ⟨j, rfl, log30 j1 j2, lsz, fun L hL => ?_⟩⟩
        exact fin _ L ((Same.refl _).new hL) (by rw [upd_same, numS]; rfl)
      · obtain rfl := rep_str ri3
        refine iteF ⟨_, rfl, .inr ⟨_, rfl, lsz, fun L hL => ?_⟩⟩
        exact fin _ L ((Same.refl _).new hL) (by rw [upd_same]; rfl)
      · have hq3 := hcl _ hqk
        have hfk2 := hkids _ hqk
        have ea := argWs_kid (g := gws n) (fok_hf hfk2)
        obtain ⟨w', a', rfl⟩ := hf_tup (fok_hf hfk2)
        refine iteT ⟨x, rfl, x, _, rfl, ri3, hfk2, by omega, fun H5 L s5 nL eL => ?_⟩
        exact fin H5 L s5 (by rw [ea]; exact eL)
    · rintro σ' H3 ⟨s3, B, z, rfl, nB, eB⟩
      rw [hrs2.1, List.take_length] at eB
      exact ⟨_, rfl, k _ B (s0.trans s3) nB (by rw [eg]; exact eB)⟩
end
end K6
set_option maxHeartbeats 4000001
namespace K6
open L2 PySem PySem.Spec PyProof.Rows
def sp_gen_text (C : Addr) : Sp := fun vs H Q E => ∃ v d, vs = [v] ∧ Rep H v d ∧ (gw d = none → ∀ H', Same H H' → Q (.str (S (sprd (gws 6 d)))) H') ∧ ∀ way, gw d = some way → Place C H way E
theorem gws_sum {n : Nat} {d : D} (h : fok n d = true) (hc : gct n d ≤ 24) : ((gws n d).map fun w => w.length + 1).sum ≤ 844800 := by
  have h1 := sum_le (gws_bound n d h).2
  have h2 := gws_len h hc
  have : (gws n d).length * 32 ≤ 26400 * 32 := Nat.mul_le_mul_right _ h2
  omega
theorem cut1 {xs : List V} (h1 : 1 ≤ xs.length) (h2 : xs.length ≤ 4) : ¬ (HT.sIx xs.length 0 (some 1) = 0 ∧ HT.sIx xs.length xs.length none = xs.length) ∧ cutV xs (some 1) none = xs.drop 1 := by
  match xs, h1, h2 with
  | [a], _, _ => exact ⟨(show ¬ (HT.sIx 1 0 (some 1) = 0 ∧ HT.sIx 1 1 none = 1) by decide), rfl⟩
  | [a, b], _, _ => exact ⟨(show ¬ (HT.sIx 2 0 (some 1) = 0 ∧ HT.sIx 2 2 none = 2) by decide), rfl⟩
  | [a, b, c], _, _ => exact ⟨(show ¬ (HT.sIx 3 0 (some 1) = 0 ∧ HT.sIx 3 3 none = 3) by decide), rfl⟩
  | [a, b, c, d], _, _ => exact ⟨(show ¬ (HT.sIx 4 0 (some 1) = 0 ∧ HT.sIx 4 4 none = 4) by decide), rfl⟩
  | _ :: _ :: _ :: _ :: _ :: _, _, h => simp at h
def flatPs (ps : List (Int × D)) : List D := (ps.map fun p => [D.int p.1, p.2]).flatten
section
variable {P : Program}
variable {w : World} {K : PySem.W.Frag} {mg : Str → Option Value} {base : Heap}
abbrev s_generator_text : Stmt := top 87
abbrev N_generator_text : List Str := ["generator"]
theorem sc_generator_text : FnScope N_generator_text ["generator"] (defScope s_generator_text) := ⟨rfl, rfl, rfl, by decide +kernel, rfl, by decide +kernel, by decide +kernel⟩
theorem cl_generator_text {C : Addr} (F : Df K mg "generator_text" s_generator_text ["generator"]) (T : Tx mg) (c_need_generator : Cl P w K mg base 9 "need_generator" (sp_need_generator C)) (c_generator_words : Cl P w K mg base 21 "generator_words" (sp_gw 6)) (c_spread : Cl P w K mg base 1 "spread" sp_spread) : Cl P w K mg base 22 "generator_text" (sp_gen_text C) := by
  refine F.cl sc_generator_text (fun vs H Q E h => by obtain ⟨_, _, rfl, _⟩ := h; rfl) (fun f cdv A outer s H vs Q E hr h => ?_)
  have nd := sc_generator_text.nd
  obtain ⟨v, d, rfl, hd, k, ke⟩ := h
  refine ⟨_, (pss_one (ps_ret (pf c_spread hr (by omega) rfl (pa_cons (pf c_generator_words hr (by omega) rfl (pa_cons (pfX c_need_generator tkE (fun _ _ _ _ h => h) hr (by omega) rfl (pa_cons (pv 0) pa_nil)) pa_nil)) pa_nil)))), ?_⟩
  refine ⟨v, rfl, v, d, rfl, hd, fun e H1 s1 => ?_, ke⟩
  obtain ⟨ht, hc⟩ := gw_fok e
  refine ⟨v, d, rfl, hd.same s1, ht, hc, fun H2 a s2 _ ea => ⟨a, _, rfl, ea, ?_, fun H3 s3 => k e H3 ((s1.trans s2).trans s3)⟩⟩
  have := gws_sum ht hc
  omega
abbrev s__law_words : Stmt := top 115
abbrev N__law_words : List Str := ["_law_generator_here", "_law_found", "_law_thing_here", "_law_parts", "_law_one_here", "_law_part"]
theorem sc__law_words : FnScope N__law_words ["_law_generator_here"] (defScope s__law_words) := ⟨rfl, rfl, rfl, by decide +kernel, rfl, by decide +kernel, by decide +kernel⟩
theorem cl__law_words (F : Df K mg "_law_words" s__law_words ["_law_generator_here"]) (T : Tx mg) (c__law_thing_words : Cl P w K mg base 7 "_law_thing_words" (sp_tw 6)) : ∀ n, Cl P w K mg base (8 + n) "_law_words" (sp_gw n)
  | 0 => F.cl (k := 7) sc__law_words sp_gw_len (fun f cdv A outer s H vs Q E hr h => by
      obtain ⟨v, d, rfl, hd, ht, _⟩ := h
      cases ht)
  | n + 1 => by
    have c__law_words := cl__law_words F T c__law_thing_words n
    refine Cl.mono (F.cl (k := 8 + n) sc__law_words sp_gw_len (fun f cdv A outer s H vs Q E hr h => ?_)) (by omega)
    have nd := sc__law_words.nd
    obtain ⟨v, d, rfl, hd, hfk, hc, k⟩ := h
    have hkids := fok_kids hfk
    have hcl := fun (q : D) (hq : q ∈ kidsG d) => gct_kid (n := n) hq
    have htot := gws_len hfk hc
    obtain ⟨wd, args, rfl, hl, hw⟩ := hf_split (fok_hf hfk)
    refine ⟨_, (pss_cons (pset 1 nd (pe_lst (pa_cons (pe_ix (ix_tupK K) (pv 0) pe_int (fun _ _ => rfl)) pa_nil)))
      (pss_cons (ps_if (pt_cmpR (op_inK K) (pe_ix (ix_tupK K) (pv 0) pe_int (fun _ _ => rfl)) (pe_tup (pa_cons pe_str (pa_cons pe_str pa_nil))) rfl) (pss_cons (ps_for (passes_of rfl) rfl (pi_sq K (pe_ifExp (pt_cmpR op_eq (pe_ix (ix_tupK K) (pv 0) pe_int (fun _ _ => rfl)) pe_str (nomark _)) (pe_ix (ix_tupK K) (pv 0) pe_int (fun _ _ => rfl)) (pe_lst (pa_cons (pe_ix (ix_tupK K) (pv 0) pe_int (fun _ _ => rfl)) pa_nil)))) (pgn 2 nd) (pss_one (pset 1 nd (pe_op op_cat (pv 1) (pf c__law_thing_words hr (by omega) rfl (pa_cons (pv 2) pa_nil))))))
        (pss_one (ps_ret (pv 1)))) pss_nil)
      (pss_cons (pset 3 nd (pe_callTy (call_lstK K) rfl T.n_list bt_list (pa_cons (pe_slice (sl_tupK K) (pv 0) (po_some pe_int) po_none) pa_nil)))
      (C8.pss_cut (ps_if (pt_cmpR (op_inK K) (pe_ix (ix_tupK K) (pv 0) pe_int (fun _ _ => rfl)) (pe_tup (pa_cons pe_str (pa_cons pe_str pa_nil))) rfl) (pss_cons (pset 3 nd (pe_lst pa_nil))
        (pss_one (ps_for (passes_of rfl) rfl (pi_tupK K (pe_ix (ix_tupK K) (pv 0) pe_int (fun _ _ => rfl))) (pgn 4 nd) (pss_one (pset 3 nd (pe_op op_cat (pv 3) (pe_ifExp (pt_cmpR op_eq (pe_ix (ix_tupK K) (pv 0) pe_int (fun _ _ => rfl)) pe_str (nomark _)) (pe_callTy (call_lstK K) rfl T.n_list bt_list (pa_cons (pv 4) pa_nil)) (pe_lst (pa_cons (pv 4) pa_nil))))))))) pss_nil)
      (pss_cons (ps_for (passes_of rfl) rfl (pi_listK K (pv 3)) (pgn 5 nd) (pss_one (pset 1 nd (pe_op op_cat (pv 1) (pe_ifExp (pt_val (pe_callB (call_isDK K) rfl T.n_isinstance bb_isinstance (pa_cons (pv 5) (pa_cons (pty (n := "tuple") rfl T.n_tuple bt_tuple) pa_nil)))) (pe_op op_cat (pe_op op_cat (pe_lst (pa_cons pe_str pa_nil)) (pf c__law_words hr (by omega) rfl (pa_cons (pv 5) pa_nil))) (pe_lst (pa_cons pe_str pa_nil))) (pe_lst (pa_cons (pe_callTy call_strX rfl T.n_str bt_str (pa_cons (pv 5) pa_nil)) pa_nil)))))))
      (pss_one (ps_ret (pv 1)))))))), ?_⟩
    obtain ⟨p, xs, rfl, ep, hx⟩ := hd.tup_inv
    obtain ⟨x0, ex0, r0⟩ := hx.get (i := 0) (d := .str wd) rfl
    obtain rfl := rep_str r0
    have hxl : xs.length = args.length + 1 := hx.1
    have l4 : lenOf wd ≤ 4 := by
      unfold lenOf
      repeat' split
      all_goals omega
    refine ⟨_, rfl, p, xs, 0, _, rfl, rfl, sqt ep, atI_nat (j := 0) ex0, lsz, fun A0 hA => ?_⟩
    have sA : Same H (upd H A0 (.lst [.str (S wd)])) := (Same.refl _).new hA
    have eA : (upd H A0 (.lst [.str (S wd)])) A0 = some (.lst (wStrs [wd])) := upd_same
    have nA : H A0 = none := hA
    have epA := sA _ _ ep
    generalize (upd H A0 (.lst [.str (S wd)])) = H1 at *
    refine ⟨_, rfl, p, xs, 0, _, rfl, rfl, sqt epA, atI_nat (j := 0) ex0, lsz, fun t ht => ⟨t, _, rfl, .inr (sqt upd_same), rfl, rfl, _, rfl, ?_⟩⟩
    have e7 : inV (.str (S wd)) [V.str "just", V.str "some"] = decide (wd ∈ [W "just", W "some"]) := inV_W wd ["just", "some"]
    rw [if_neg Bool.false_ne_true, e7]
    have s2 : Same H1 (upd H1 t (.tup [.str "just", .str "some"])) := (Same.refl _).new ht
    generalize (upd H1 t (.tup [.str "just", .str "some"])) = H2 at *
    have eA2 := s2 _ _ eA
    have s02 := sA.trans s2
    have ep2 := s2 _ _ epA
    have put : ∀ (pre add : List (List Nat)) (tot : Nat), pre.length + add.length ≤ tot → tot ≤ 1000000 → ∀ H5 (B L : Addr), H5 B = some (.lst (wStrs pre)) → H5 L = some (.lst (wStrs add)) → ∀ R : Addr → Hp → Prop, (∀ q, H5 q = none → R q (upd H5 q (.lst (wStrs (pre ++ add))))) → ∃ l b xs zs, V.ref B = .ref l ∧ V.ref L = .ref b ∧ H5 l = some (.lst xs) ∧ H5 b = some (.lst zs) ∧ xs.length + zs.length ≤ sizeLine ∧ ∀ q, H5 q = none → R q (upd H5 q (.lst (xs ++ zs))) := fun pre add tot h1 h2 H5 B L eB eL R hR => by
      refine ⟨B, L, _, _, rfl, rfl, eB, eL, by rw [wStrs_len, wStrs_len]; exact sizes' (by omega), fun q hq => ?_⟩
      rw [← wStrs_app]
      exact hR q hq
    by_cases e8 : wd ∈ [W "just", W "some"]
    · rw [decide_eq_true e8]
      have e9 : wd = W "just" ∨ wd = W "some" := by simpa using e8
      have n2 : lenOf wd = 2 := by rcases e9 with e | e <;> (rw [e]; decide +kernel)
      obtain ⟨t0, rfl⟩ := len_one (hl.trans n2)
      obtain ⟨x1, ex1, r1⟩ := hx.get (i := 1) (d := t0) rfl
      obtain ⟨ts, hts, eg, hcase⟩ : ∃ ts : List D, (∀ t ∈ ts, own t = true) ∧ gws (n + 1) (.tup (.str wd :: [t0])) = wd :: (ts.map (tw 6)).flatten ∧ ((wd = W "just" ∧ ts = [t0]) ∨ (wd ≠ W "just" ∧ wd = W "some" ∧ t0 = .tup ts)) := by
        rcases e9 with e | e
        · refine ⟨[t0], fun t ht => ?_, ?_, .inl ⟨e, rfl⟩⟩
          · rw [List.mem_singleton] at ht
            subst ht
            subst e
            exact hw
          · subst e
            show W "just" :: tw 6 t0 = _
            simp
        · have hso : somesOk t0 = true := by subst e; exact hw
          cases t0 with
          | tup ds =>
            rw [somesOk_tup, Bool.and_eq_true] at hso
            refine ⟨ds, List.all_eq_true.mp hso.2, ?_, .inr ⟨by rw [e]; decide +kernel, e, rfl⟩⟩
            subst e
            rfl
          | _ => cases hso
      rw [eg] at k htot
      rw [List.length_cons] at htot
      refine iteT ⟨_, rfl, p, xs, 0, _, rfl, rfl, sqt ep2, atI_nat (j := 0) ex0, rfl, _, rfl, ?_⟩
      rw [dstr wd "some"]
      rcases hcase with ⟨ej, et⟩ | ⟨nj, es, rfl⟩
      · rw [decide_eq_false (show ¬ wd = W "some" by rw [ej]; decide +kernel)]
        refine iteF ⟨_, rfl, p, xs, 1, _, rfl, rfl, sqt ep2, atI_nat (j := 1) ex1, lsz, fun L3 hL3 => ⟨L3, rfl, .inl ⟨⟨_, sql upd_same⟩, ?_⟩⟩⟩
        have s3 : Same H2 (upd H2 L3 (.lst [x1])) := (Same.refl _).new hL3
        have hy : Reps (upd H2 L3 (.lst [x1])) [x1] ts := by
          rw [et]
          exact Reps.cons ((r1.same s02).same s3) Reps.nil
        have eL3 : (upd H2 L3 (.lst [x1])) L3 = some (.lst [x1]) := upd_same
        generalize (upd H2 L3 (.lst [x1])) = H3 at *
        refine for_it (walk_list (xs := [x1])) (fun i σ' H' => Same H3 H' ∧ ∃ (B : Addr) (z : Option V), σ' = [some (.ref p), some (.ref B), z, none, none, none] ∧ H B = none ∧ H' B = some (.lst (wStrs (wd :: ((ts.take i).map (tw 6)).flatten)))) ⟨Same.refl _, A0, none, rfl, nA, s3 _ _ eA2⟩ (fun i σ' H' _ p => sql (p.1 _ _ eL3)) ?_ ?_
        · rintro i x σ' H4 H5 hi ⟨s4, B, z, rfl, nB, eB⟩ ⟨rfl, hxi⟩
          obtain ⟨di, hdi, ri⟩ := hy.getV hxi
          obtain ⟨_, h3, h4, h5, _⟩ := own_words (hts di (List.mem_of_getElem? hdi))
          have l0 := flat_len2 (f := tw 6) hdi
          refine ⟨_, rfl, x, rfl, x, di, rfl, ri.same s4, h3, by omega, fun H6 L s6 nL eL => ?_⟩
          refine put _ _ _ (by rw [List.length_cons]; exact Nat.le_refl _) (by omega) H6 B L (s6 _ _ eB) eL _ fun q hq => ⟨(s4.trans s6).new hq, q, _, rfl, (s02.trans (s3.trans (s4.trans s6))).free hq, ?_⟩
          rw [upd_same, flat_mem (f := tw 6) hdi]
          rfl
        · rintro σ' H4 ⟨s4, B, z, rfl, nB, eB⟩
          rw [hy.1, List.take_length] at eB
          exact ⟨_, rfl, k _ B (s02.trans (s3.trans s4)) nB eB⟩
      · rw [decide_eq_true es]
        obtain ⟨b, ys, rfl, eb, hy0⟩ := r1.tup_inv
        have hy := hy0.same s02
        have eb2 := s02 _ _ eb
        refine iteT ⟨_, rfl, p, xs, 1, _, rfl, rfl, sqt ep2, atI_nat (j := 1) ex1, b, rfl, .inr ⟨⟨ys, sqt eb2⟩, ?_⟩⟩
        have s3 : Same H2 H2 := Same.refl _
        generalize hH3 : H2 = H3 at s3
        subst hH3
        refine for_it (walk_tup (xs := ys)) (fun i σ' H' => Same H2 H' ∧ ∃ (B : Addr) (z : Option V), σ' = [some (.ref p), some (.ref B), z, none, none, none] ∧ H B = none ∧ H' B = some (.lst (wStrs (wd :: ((ts.take i).map (tw 6)).flatten)))) ⟨Same.refl _, A0, none, rfl, nA, s3 _ _ eA2⟩ (fun i σ' H' _ p => sqt (p.1 _ _ eb2)) ?_ ?_
        · rintro i x σ' H4 H5 hi ⟨s4, B, z, rfl, nB, eB⟩ ⟨rfl, hxi⟩
          obtain ⟨di, hdi, ri⟩ := hy.getV hxi
          obtain ⟨_, h3, h4, h5, _⟩ := own_words (hts di (List.mem_of_getElem? hdi))
          have l0 := flat_len2 (f := tw 6) hdi
          refine ⟨_, rfl, x, rfl, x, di, rfl, ri.same s4, h3, by omega, fun H6 L s6 nL eL => ?_⟩
          refine put _ _ _ (by rw [List.length_cons]; exact Nat.le_refl _) (by omega) H6 B L (s6 _ _ eB) eL _ fun q hq => ⟨(s4.trans s6).new hq, q, _, rfl, (s02.trans (s3.trans (s4.trans s6))).free hq, ?_⟩
          rw [upd_same, flat_mem (f := tw 6) hdi]
          rfl
        · rintro σ' H4 ⟨s4, B, z, rfl, nB, eB⟩
          rw [hy.1, List.take_length] at eB
          exact ⟨_, rfl, k _ B (s02.trans (s3.trans s4)) nB eB⟩
    · rw [decide_eq_false e8]
      have e9 : ¬ (wd = W "just" ∨ wd = W "some") := by simpa using e8
      have n1 : wd ≠ W "just" := fun e => e9 (.inl e)
      have n2 : wd ≠ W "some" := fun e => e9 (.inr e)
      obtain ⟨c1, c2⟩ := cut1 (xs := xs) (by omega) (by omega)
      refine iteF ⟨_, rfl, 1, rfl, p, xs, rfl, sqt ep2, c1, fun t3 ht3 => ⟨t3, _, rfl, .inr (sqt upd_same), fun L3 hL3 => ?_⟩⟩
      rw [c2] at hL3 ⊢
      have s3 : Same H2 (upd (upd H2 t3 (.tup (xs.drop 1))) L3 (.lst (xs.drop 1))) := ((Same.refl _).new ht3).new hL3
      have eL3 : (upd (upd H2 t3 (.tup (xs.drop 1))) L3 (.lst (xs.drop 1))) L3 = some (.lst (xs.drop 1)) := upd_same
      generalize (upd (upd H2 t3 (.tup (xs.drop 1))) L3 (.lst (xs.drop 1))) = H3 at *
      have s03 := s02.trans s3
      obtain ⟨as, eg, has, hlen⟩ : ∃ as : List D, gws (n + 1) (.tup (.str wd :: args)) = wd :: (as.map (argWs (gws n))).flatten ∧ (∀ a ∈ as, (∃ i, a = .int i ∧ -(10 ^ 30) < i ∧ i < 10 ^ 30) ∨ (∃ s, a = .str s ∧ s.length ≤ 31) ∨ a ∈ kidsG (.tup (.str wd :: args))) ∧
          ((wd = W "mix" ∧ ∃ ps : List (Int × D), args = [.tup (ps.map fun p => .tup [.int p.1, p.2])] ∧ ps.length ≤ 6 ∧ as = flatPs ps) ∨ (wd ≠ W "mix" ∧ wd = W "all" ∧ args = [.tup as] ∧ as.length ≤ 6) ∨ (wd ≠ W "mix" ∧ wd ≠ W "all" ∧ as = args)) := by
        by_cases e3 : wd = W "mix"
        · obtain ⟨ps, rfl, l1, l2, hps⟩ : ∃ ps : List (Int × D), args = [.tup (ps.map fun p => .tup [.int p.1, p.2])] ∧ 1 ≤ ps.length ∧ ps.length ≤ 6 ∧ ∀ p ∈ ps, 1 ≤ p.1 ∧ p.1 ≤ 9 := by subst e3; exact hf_mix hl hw
          have ek : kidsG (.tup (.str wd :: [.tup (ps.map fun p => .tup [.int p.1, p.2])])) = ps.map (·.2) := by
            subst e3
            show ((ps.map fun p => D.tup [.int p.1, p.2]).map sndD) = _
            rw [List.map_map]
            rfl
          refine ⟨flatPs ps, ?_, fun a ha => ?_, .inl ⟨e3, ps, rfl, l2, rfl⟩⟩
          · have e5 : gws (n + 1) (.tup (.str wd :: [.tup (ps.map fun p => .tup [.int p.1, p.2])])) = wd :: (ps.map fun p => numW p.1 :: gin (gws n) p.2).flatten := by
              subst e3
              show W "mix" :: (((ps.map fun p => D.tup [.int p.1, p.2]).map fun p => strOf (fstD p) :: gin (gws n) (sndD p)).flatten) = _
              rw [List.map_map]
              rfl
            rw [e5]
            have key : ∀ l : List (Int × D), (∀ p ∈ l, hf p.2 = true) → (l.map fun p => numW p.1 :: gin (gws n) p.2).flatten = ((flatPs l).map (argWs (gws n))).flatten := by
              intro l
              induction l with
              | nil => exact fun _ => rfl
              | cons p r ih =>
                intro h
                have e6 : flatPs (p :: r) = [D.int p.1, p.2] ++ flatPs r := rfl
                rw [List.map_cons, List.flatten_cons, ih fun q hq => h q (List.mem_cons_of_mem _ hq), e6, List.map_append, List.flatten_append]
                show _ = ([numW p.1] :: [argWs (gws n) p.2]).flatten ++ _
                rw [argWs_kid (h p List.mem_cons_self)]
                simp
            rw [key ps fun q hq => fok_hf (hkids q.2 (by rw [ek]; exact List.mem_map.mpr ⟨q, hq, rfl⟩))]
          · obtain ⟨l, hl', ha⟩ := List.mem_flatten.mp ha
            obtain ⟨q, hq, rfl⟩ := List.mem_map.mp hl'
            simp only [List.mem_cons, List.not_mem_nil, or_false] at ha
            rcases ha with rfl | rfl
            · exact .inl ⟨_, rfl, by have := hps q hq; omega, by have := hps q hq; omega⟩
            · exact .inr (.inr (by rw [ek]; exact List.mem_map.mpr ⟨q, hq, rfl⟩))
        · by_cases e4 : wd = W "all"
          · obtain ⟨ts, rfl, l2⟩ : ∃ ds : List D, args = [.tup ds] ∧ ds.length ≤ 6 := by subst e4; exact hf_all hl hw
            have ek : kidsG (.tup (.str wd :: [.tup ts])) = ts := by subst e4; rfl
            refine ⟨ts, ?_, fun a ha => .inr (.inr (by rw [ek]; exact ha)), .inr (.inl ⟨e3, e4, rfl, l2⟩)⟩
            have e5 : gws (n + 1) (.tup (.str wd :: [.tup ts])) = wd :: (ts.map (gin (gws n))).flatten := by subst e4; rfl
            rw [e5]
            congr 2
            exact List.map_congr_left fun a ha => (argWs_kid (fok_hf (hkids a (by rw [ek]; exact ha)))).symm
          · refine ⟨args, ?_, hf_args hl hw n1 n2 e3 e4, .inr (.inr ⟨e3, e4, rfl⟩)⟩
            show wd :: (if wd = W "just" then _ else if wd = W "some" then _ else if wd = W "mix" then _ else if wd = W "all" then _ else _) = _
            rw [if_neg n1, if_neg n2, if_neg e3, if_neg e4]
      rw [eg] at k htot
      rw [List.length_cons] at htot
      refine ⟨fun σ4 H4 => ∃ (Pp : Addr) (ps : List V) (z : Option V), σ4 = [some (.ref p), some (.ref A0), none, some (.ref Pp), z, none] ∧ Same H3 H4 ∧ H4 Pp = some (.lst ps) ∧ Reps H4 ps as, ?_, ?_⟩
      · refine ⟨_, rfl, p, xs, 0, _, rfl, rfl, sqt (s03 _ _ ep), atI_nat (j := 0) ex0, lsz, fun t4 ht4 => ⟨t4, _, rfl, .inr (sqt upd_same), rfl, rfl, _, rfl, ?_⟩⟩
        have e7' : inV (.str (S wd)) [V.str "mix", V.str "all"] = decide (wd ∈ [W "mix", W "all"]) := inV_W wd ["mix", "all"]
        rw [if_neg Bool.false_ne_true, e7']
        have s4 : Same H3 (upd H3 t4 (.tup [.str "mix", .str "all"])) := (Same.refl _).new ht4
        generalize (upd H3 t4 (.tup [.str "mix", .str "all"])) = H4 at *
        have ep4 := s4 _ _ (s03 _ _ ep)
        have s04 := s03.trans s4
        by_cases e10 : wd ∈ [W "mix", W "all"]
        · rw [decide_eq_true e10]
          have e11 : wd = W "mix" ∨ wd = W "all" := by simpa using e10
          have hn2 : lenOf wd = 2 := by rcases e11 with e | e <;> (rw [e]; decide +kernel)
          obtain ⟨t0, rfl⟩ := len_one (hl.trans hn2)
          obtain ⟨x1, ex1, r1⟩ := hx.get (i := 1) (d := t0) rfl
          refine iteT ⟨lsz, fun P0 hP0 => ?_⟩
          have s5 : Same H4 (upd H4 P0 (.lst [])) := (Same.refl _).new hP0
          have eP0 : (upd H4 P0 (.lst [])) P0 = some (.lst []) := upd_same
          generalize (upd H4 P0 (.lst [])) = H5 at *
          have ep5 := s5 _ _ ep4
          have r15 := (r1.same s04).same s5
          rcases hlen with ⟨em, ps, ea, lp, rfl⟩ | ⟨nm, ea2, ea, lp⟩ | ⟨nm, na2, _⟩
          · obtain ⟨rfl⟩ := List.cons.inj ea
            obtain ⟨b, ys, rfl, eb, hy⟩ := r15.tup_inv
            refine ⟨_, rfl, p, xs, 1, _, rfl, rfl, sqt ep5, atI_nat (j := 1) ex1, b, rfl, ⟨ys, sqt eb⟩, for_it (walk_tup (xs := ys)) (fun i σ' H' => Same H5 H' ∧ ∃ (B : Addr) (zs : List V) (z : Option V), σ' = [some (.ref p), some (.ref A0), none, some (.ref B), z, none] ∧ H' B = some (.lst zs) ∧ Reps H' zs (flatPs (ps.take i))) ⟨Same.refl _, P0, [], none, rfl, eP0, Reps.nil⟩ (fun i σ' H' _ q => sqt (q.1 _ _ eb)) ?_ ?_⟩
            · rintro i x σ' H6 H7 hi ⟨s6, B, zs, z, rfl, eB, hzs⟩ ⟨rfl, hxi⟩
              obtain ⟨di, hdi, ri⟩ := hy.getV hxi
              rw [List.getElem?_map] at hdi
              cases eq2 : ps[i]? with
              | none => rw [eq2] at hdi; cases hdi
              | some q =>
              rw [eq2] at hdi
              obtain rfl : D.tup [.int q.1, q.2] = di := Option.some.inj hdi
              obtain ⟨c, y0, y1, rfl, ec, ry0, ry1⟩ := tup2_inv (ri.same s6)
              refine ⟨_, rfl, _, rfl, p, xs, 0, _, rfl, rfl, sqt (s6 _ _ ep5), atI_nat (j := 0) ex0, rfl, _, rfl, ?_⟩
              rw [dstr wd "mix", decide_eq_true em]
              have ef : flatPs (ps.take (i + 1)) = flatPs (ps.take i) ++ [D.int q.1, q.2] := by
                unfold flatPs
                exact flat_mem (f := fun p : Int × D => [D.int p.1, p.2]) eq2
              have lz : zs.length ≤ 12 := by
                have h1 : zs.length = (flatPs (ps.take i)).length := hzs.1
                have h2 : ∀ l : List (Int × D), (flatPs l).length = 2 * l.length := by
                  intro l
                  induction l with
                  | nil => rfl
                  | cons a r ih =>
                    rw [show flatPs (a :: r) = [D.int a.1, a.2] ++ flatPs r from rfl, List.length_append, ih, List.length_cons]
                    simp
                    omega
                rw [h1, h2, List.length_take]
                omega
              refine iteT ⟨_, rfl, c, [y0, y1], rfl, .inr (sqt ec), fun L hL => ⟨B, L, zs, [y0, y1], rfl, rfl, up_ne eB hL, upd_same, sizes' (by show zs.length + 2 ≤ _; omega), fun q2 hq2 => ⟨(s6.new hL).new hq2, q2, zs ++ [y0, y1], _, rfl, upd_same, ?_⟩⟩⟩
              have sN := ((Same.refl H7).new (o := .lst [y0, y1]) hL).new (o := .lst (zs ++ [y0, y1])) hq2
              rw [ef]
              exact (hzs.same sN).app (Reps.cons (ry0.same sN) (Reps.cons (ry1.same sN) Reps.nil))
            · rintro σ' H6 ⟨s6, B, zs, z, rfl, eB, hzs⟩
              rw [show ys.length = ps.length by rw [hy.1, List.length_map], List.take_length] at hzs
              exact ⟨B, zs, z, rfl, (s4.trans s5).trans s6, eB, hzs⟩
          · obtain ⟨rfl⟩ := List.cons.inj ea
            obtain ⟨b, ys, rfl, eb, hy⟩ := r15.tup_inv
            refine ⟨_, rfl, p, xs, 1, _, rfl, rfl, sqt ep5, atI_nat (j := 1) ex1, b, rfl, ⟨ys, sqt eb⟩, for_it (walk_tup (xs := ys)) (fun i σ' H' => Same H5 H' ∧ ∃ (B : Addr) (zs : List V) (z : Option V), σ' = [some (.ref p), some (.ref A0), none, some (.ref B), z, none] ∧ H' B = some (.lst zs) ∧ Reps H' zs (as.take i)) ⟨Same.refl _, P0, [], none, rfl, eP0, Reps.nil⟩ (fun i σ' H' _ q => sqt (q.1 _ _ eb)) ?_ ?_⟩
            · rintro i x σ' H6 H7 hi ⟨s6, B, zs, z, rfl, eB, hzs⟩ ⟨rfl, hxi⟩
              obtain ⟨di, hdi, ri⟩ := hy.getV hxi
              refine ⟨_, rfl, _, rfl, p, xs, 0, _, rfl, rfl, sqt (s6 _ _ ep5), atI_nat (j := 0) ex0, rfl, _, rfl, ?_⟩
              rw [dstr wd "mix", decide_eq_false nm]
              have lz : zs.length ≤ 6 := by
                have h1 : zs.length = (as.take i).length := hzs.1
                rw [h1, List.length_take]
                omega
              refine iteF ⟨_, rfl, lsz, fun L hL => ⟨B, L, zs, [x], rfl, rfl, up_ne eB hL, upd_same, sizes' (by show zs.length + 1 ≤ _; omega), fun q2 hq2 => ⟨(s6.new hL).new hq2, q2, zs ++ [x], _, rfl, upd_same, ?_⟩⟩⟩
              have sN := ((Same.refl H7).new (o := .lst [x]) hL).new (o := .lst (zs ++ [x])) hq2
              rw [List.take_succ, hdi]
              exact (hzs.same sN).app (Reps.cons ((ri.same s6).same sN) Reps.nil)
            · rintro σ' H6 ⟨s6, B, zs, z, rfl, eB, hzs⟩
              rw [hy.1, List.take_length] at hzs
              exact ⟨B, zs, z, rfl, (s4.trans s5).trans s6, eB, hzs⟩
          · exact absurd e11 (by rintro (z | z); exact nm z; exact na2 z)
        · rw [decide_eq_false e10]
          have e11 : ¬ (wd = W "mix" ∨ wd = W "all") := by simpa using e10
          obtain rfl : as = args := by
            rcases hlen with ⟨z, _⟩ | ⟨_, z, _⟩ | ⟨_, _, z⟩
            · exact absurd (.inl z) e11
            · exact absurd (.inr z) e11
            · exact z
          refine iteF ⟨L3, xs.drop 1, none, rfl, s4, s4 _ _ eL3, ?_⟩
          exact (show Reps H (xs.drop 1) as from All2.drop hx 1).same s04
      rintro σ4 H4 ⟨Pp, ps, z0, rfl, s4, ePp, hps⟩
      have s04 := s03.trans s4
      have eA4 := s4 _ _ (s3 _ _ eA2)
      refine ⟨_, rfl, Pp, rfl, ⟨ps, sql ePp⟩, for_it (walk_list (xs := ps)) (fun i σ' H' => Same H4 H' ∧ ∃ (B : Addr) (z : Option V), σ' = [some (.ref p), some (.ref B), none, some (.ref Pp), z0, z] ∧ H B = none ∧ H' B = some (.lst (wStrs (wd :: ((as.take i).map (argWs (gws n))).flatten)))) ⟨Same.refl _, A0, none, rfl, nA, eA4⟩ (fun i σ' H' _ q => sql (q.1 _ _ ePp)) ?_ ?_⟩
      · rintro i x σ' H5 H6 hi ⟨s5, B, z, rfl, nB, eB⟩ ⟨rfl, hxi⟩
        obtain ⟨di, hdi, ri⟩ := hps.getV hxi
        have ri3 := ri.same s5
        have l0 := flat_len2 (f := argWs (gws n)) hdi
        have e9' := flat_mem (f := argWs (gws n)) hdi
        refine ⟨_, rfl, x, rfl, x, di, "tuple", rfl, by decide, ri3, _, rfl, ?_⟩
        have fin : ∀ H7 L, Same H6 H7 → H7 L = some (.lst (wStrs (argWs (gws n) di))) → ∃ l b xs zs, V.ref B = .ref l ∧ V.ref L = .ref b ∧ H7 l = some (.lst xs) ∧ H7 b = some (.lst zs) ∧ xs.length + zs.length ≤ sizeLine ∧ ∀ q, H7 q = none → (Same H4 (upd H7 q (.lst (xs ++ zs))) ∧ ∃ (B : Addr) (z : Option V), ([some (V.ref p), some (V.ref q), none, some (V.ref Pp), z0, some x] : List (Option V)) = [some (.ref p), some (.ref B), none, some (.ref Pp), z0, z] ∧ H B = none ∧ (upd H7 q (.lst (xs ++ zs))) B = some (.lst (wStrs (wd :: ((as.take (i + 1)).map (argWs (gws n))).flatten)))) := fun H7 L s7 eL =>
          put _ _ _ (by rw [List.length_cons]; exact Nat.le_refl _) (by omega) H7 B L (s7 _ _ eB) eL (fun q H' => Same H4 H' ∧ ∃ (B : Addr) (z : Option V), ([some (V.ref p), some (V.ref q), none, some (V.ref Pp), z0, some x] : List (Option V)) = [some (.ref p), some (.ref B), none, some (.ref Pp), z0, z] ∧ H B = none ∧ H' B = some (.lst (wStrs (wd :: ((as.take (i + 1)).map (argWs (gws n))).flatten)))) fun q hq => ⟨(s5.trans s7).new hq, q, _, rfl, (s04.trans (s5.trans s7)).free hq, by rw [upd_same, e9']; rfl⟩
        rcases has di (List.mem_of_getElem? hdi) with ⟨j, rfl, j1, j2⟩ | ⟨z2, rfl, lz⟩ | hqk
        · cases ri3
          refine iteF ⟨_, rfl, .inl ⟨j, rfl, log30 j1 j2, lsz, fun L hL => ?_⟩⟩
          exact fin _ L ((Same.refl _).new hL) (by rw [upd_same, numS]; rfl)
        · obtain rfl := rep_str ri3
          refine iteF ⟨_, rfl, .inr ⟨_, rfl, lsz, fun L hL => ?_⟩⟩
          exact fin _ L ((Same.refl _).new hL) (by rw [upd_same]; rfl)
        · have hq3 := hcl _ hqk
          have hfk2 := hkids _ hqk
          have ea := argWs_kid (g := gws n) (fok_hf hfk2)
          have lq := gws_len hfk2 (by omega)
          obtain ⟨w', a', rfl⟩ := hf_tup (fok_hf hfk2)
          refine iteT ⟨lsz, fun O hO => ⟨x, rfl, x, _, rfl, ri3.same ((Same.refl _).new hO), hfk2, by omega, fun H7 L s7 nL eL => ?_⟩⟩
          have s67 := ((Same.refl H6).new (o := .lst [.str "("]) hO).trans s7
          refine ⟨O, L, _, _, rfl, rfl, s7 _ _ upd_same, eL, ?_, fun O2 hO2 => ⟨lsz, fun O3 hO3 => ⟨O2, O3, _, _, rfl, rfl, up_ne upd_same hO3, upd_same, ?_, fun O4 hO4 => ?_⟩⟩⟩
          · rw [wStrs_len]
            exact sizes' (by show 1 + _ ≤ _; omega)
          · rw [List.length_append, wStrs_len]
            exact sizes' (by show 1 + _ + 1 ≤ _; omega)
          · refine fin _ O4 (((s67.new hO2).new hO3).new hO4) ?_
            rw [upd_same, ea]
            have e : gin (gws n) (.tup (.str w' :: a')) = [[40]] ++ (gws n (.tup (.str w' :: a')) ++ [[41]]) := rfl
            rw [e, wStrs_app, wStrs_app, ← List.append_assoc]
            rfl
      · rintro σ' H5 ⟨s5, B, z, rfl, nB, eB⟩
        rw [hps.1, List.take_length] at eB
        exact ⟨_, rfl, k _ B (s04.trans s5) nB eB⟩
end
end K6
set_option maxHeartbeats 4000001
namespace K6
open L2 PySem PySem.Spec PyProof.Rows
def figL : List Nat := [48, 49, 50, 51, 52, 53, 54, 55, 56, 57]
def sigL : List Nat := [40, 41, 91, 93]
def run (l t : List Nat) : List Nat := t.takeWhile fun c => decide (c ∈ l)
def hdIn (l : List Nat) : List Nat → Bool
  | d :: _ => decide (d ∈ l)
  | [] => false
def wrd : List Nat → List Nat × List Nat
  | [] => (W "odd", [])
  | c :: r => if c ∈ smallL then (W "run", run smallL (c :: r))
    else if c = 35 ∧ hdIn smallL r = true then (W "name", c :: run smallL r)
    else if c ∈ figL ∨ (c = 45 ∧ hdIn figL r = true) then (W "number", c :: run figL r)
    else (if c ∈ sigL then W "sign" else W "odd", [c])
def skip (t : List Nat) : List Nat := t.dropWhile fun c => decide (c ∈ [32])
def tks : Nat → List Nat → List (List Nat × List Nat)
  | 0, _ => []
  | _ + 1, [] => []
  | n + 1, c :: r => wrd (c :: r) :: (if (wrd (c :: r)).1 = W "odd" then [] else tks n (skip ((c :: r).drop (wrd (c :: r)).2.length)))
def toks (t : List Nat) : List (List Nat × List Nat) := tks (t.length + 1) (skip t)
theorem run_drop (l t : List Nat) : t.drop (run l t).length = t.dropWhile fun c => decide (c ∈ l) := by
  unfold run
  induction t with
  | nil => rfl
  | cons c r ih =>
    rw [List.takeWhile_cons, List.dropWhile_cons]
    split
    · rw [List.length_cons, List.drop_succ_cons]
      exact ih
    · rfl
theorem run_take (l t : List Nat) : t.take (run l t).length = run l t := by
  unfold run
  induction t with
  | nil => rfl
  | cons c r ih =>
    rw [List.takeWhile_cons]
    split
    · rw [List.length_cons, List.take_succ_cons, ih]
    · rfl
theorem run_le (l t : List Nat) : (run l t).length ≤ t.length := by
  have := congrArg List.length (run_take l t)
  rw [List.length_take] at this
  omega
theorem wrd_cons (c : Nat) (r : List Nat) : wrd (c :: r) = if c ∈ smallL then (W "run", run smallL (c :: r))
    else if c = 35 ∧ hdIn smallL r = true then (W "name", c :: run smallL r)
    else if c ∈ figL ∨ (c = 45 ∧ hdIn figL r = true) then (W "number", c :: run figL r)
    else (if c ∈ sigL then W "sign" else W "odd", [c]) := rfl
theorem wrd_take {c : Nat} {r : List Nat} : (c :: r).take (wrd (c :: r)).2.length = (wrd (c :: r)).2 ∧ 1 ≤ (wrd (c :: r)).2.length ∧ (wrd (c :: r)).2.length ≤ r.length + 1 := by
  rw [wrd_cons]
  split
  · rename_i h
    refine ⟨run_take _ _, ?_, run_le _ (c :: r)⟩
    show 1 ≤ (run smallL (c :: r)).length
    unfold run
    rw [List.takeWhile_cons, if_pos (decide_eq_true h)]
    simp
  split
  · refine ⟨?_, by simp, ?_⟩
    · rw [List.length_cons, List.take_succ_cons, run_take]
    · rw [List.length_cons]
      exact Nat.succ_le_succ (run_le _ _)
  split
  · refine ⟨?_, by simp, ?_⟩
    · rw [List.length_cons, List.take_succ_cons, run_take]
    · rw [List.length_cons]
      exact Nat.succ_le_succ (run_le _ _)
  · exact ⟨by simp, by simp, by simp⟩
theorem skip_le (t : List Nat) : (skip t).length ≤ t.length := by
  unfold skip
  rw [← run_drop, List.length_drop]
  omega
end K6
set_option maxHeartbeats 4000001
namespace K6
open L2 PySem PySem.Spec PyProof.Rows
theorem cps_fig : ("0123456789" : Str).cps.toList = figL := by decide +kernel
theorem cps_sig : ("()[]" : Str).cps.toList = sigL := by decide +kernel
theorem S_sig : (Str.ofString "()[]" : Str) = S sigL := by decide +kernel
theorem S_small : (Str.ofString "abcdefghijklmnopqrstuvwxyz" : Str) = S smallL := by decide +kernel
theorem S_fig : (Str.ofString "0123456789" : Str) = S figL := by decide +kernel
theorem S_W' (s : String) : Str.ofString s = S (W s) := (S_W s).symm
theorem cutS_S (t : List Nat) (i j : Nat) (h : i ≤ j) : cutS (S t) (some (i : Int)) (some (j : Int)) = S ((t.drop i).take (j - i)) := by
  unfold cutS
  rw [HT.sIx_nat, HT.sIx_nat, S_len]
  show S _ = S _
  congr 1
  show List.take _ (List.drop (min i t.length) t) = _
  by_cases h1 : i ≤ t.length
  · rw [Nat.min_eq_left h1]
    by_cases h2 : j ≤ t.length
    · rw [Nat.min_eq_left h2]
    · rw [Nat.min_eq_right (by omega), List.take_of_length_le (by rw [List.length_drop]; omega), List.take_of_length_le (by rw [List.length_drop]; omega)]
  · rw [Nat.min_eq_right (by omega), List.drop_eq_nil_of_le (by omega), List.drop_eq_nil_of_le (by omega)]
    simp
def sp_run : Sp := fun vs H Q _ => ∃ (t sg : List Nat) (a : Nat), vs = [.str (S t), .int a, .str (S sg)] ∧ t.length ≤ 1000000 ∧ a ≤ t.length ∧ ∀ H', Same H H' → Q (.int ((a + (run sg (t.drop a)).length : Nat) : Int)) H'
section
variable {P : Program}
variable {w : World} {K : PySem.W.Frag} {mg : Str → Option Value} {base : Heap}
abbrev s_run_from : Stmt := top 21
abbrev N_run_from : List Str := ["text", "at", "signs"]
theorem sc_run_from : FnScope N_run_from ["text", "at", "signs"] (defScope s_run_from) := ⟨rfl, rfl, rfl, by decide +kernel, rfl, by decide +kernel, by decide +kernel⟩
theorem cl_run_from (F : Df K mg "run_from" s_run_from ["text", "at", "signs"]) (T : Tx mg) : Cl P w K mg base 1 "run_from" sp_run := by
  refine F.cl sc_run_from (fun vs H Q E h => by obtain ⟨_, _, _, rfl, _⟩ := h; rfl) (fun f cdv A outer s H vs Q E hr h => ?_)
  have nd := sc_run_from.nd
  obtain ⟨t, sg, a, rfl, ht, ha, k⟩ := h
  refine ⟨_, (pss_cons (ps_while (passes_of rfl) (PW.pt (pw_and (pt_cmpR op_lt (pv 1) (pe_callB (call_lenK K) rfl T.n_len PySem.boot_len (pa_cons (pv 0) pa_nil)) (nomark _)) (pw_and1 (pt_cmpR op_in_sign (pe_ix ix_str (pv 0) (pv 1) (fun _ _ => rfl)) (pv 2) rfl)))) (pss_one (ps_aug (i := 1) nd rfl (Or.inl rfl) pe_int ip_add)))
    (pss_one
        (ps_ret (pv 1)))), ?_⟩
  refine ⟨fun m σ' H' => H' = H ∧ ∃ b : Nat, σ' = [some (.str (S t)), some (.int b), some (.str (S sg))] ∧ m = t.length - b ∧ b ≤ t.length ∧ b + (run sg (t.drop b)).length = a + (run sg (t.drop a)).length, ⟨_, rfl, a, rfl, rfl, ha, rfl⟩, ?_⟩
  rintro m σ' H' ⟨rfl, b, rfl, rfl, hb, e⟩
  refine ⟨_, rfl, _, rfl, .str (S t), (S t).length, rfl, ⟨by rw [S_len]; exact sizes' ht, rfl⟩, _, _, rfl, rfl, _, rfl, ?_⟩
  rw [S_len]
  by_cases h1 : b < t.length
  · rw [decide_eq_true (show (b : Int) < (t.length : Int) by omega)]
    refine iteT ⟨_, rfl, _, rfl, _, _, _, rfl, rfl, by rw [S_len]; exact sizes' ht, atI_nat (v := t[b]) (List.getElem?_eq_getElem h1), _, rfl, _, _, rfl, rfl, _, rfl, ?_⟩
    show if decide (t[b] ∈ sg) = true then _ else _
    have ed : t.drop b = t[b] :: t.drop (b + 1) := List.drop_eq_getElem_cons h1
    cases e2 : decide (t[b] ∈ sg) with
    | true =>
      refine iteT ⟨_, fun _ _ h => h, _, rfl, _, _, rfl, rfl, t.length - (b + 1), by omega, rfl, b + 1, ?_, rfl, h1, ?_⟩
      · rfl
      · rw [← e, ed]
        unfold run
        rw [List.takeWhile_cons, if_pos e2, List.length_cons]
        omega
    | false =>
      have : run sg (t.drop b) = [] := by
        rw [ed]
        unfold run
        rw [List.takeWhile_cons, if_neg (by rw [e2]; exact Bool.false_ne_true)]
      rw [this] at e
      have e3 : a + (run sg (t.drop a)).length = b := e.symm
      rw [e3] at k
      exact iteF ⟨_, rfl, k _ (Same.refl _)⟩
  · rw [decide_eq_false (show ¬ (b : Int) < (t.length : Int) by omega)]
    have : run sg (t.drop b) = [] := by
      rw [List.drop_eq_nil_of_le (by omega)]
      rfl
    rw [this] at e
    have e3 : a + (run sg (t.drop a)).length = b := e.symm
    rw [e3] at k
    exact iteF ⟨_, rfl, k _ (Same.refl _)⟩
def sp_word_at : Sp := fun vs H Q _ => ∃ (t : List Nat) (a : Nat), vs = [.str (S t), .int a, .str (S sigL)] ∧ t.length ≤ 1000000 ∧ a < t.length ∧ ∀ H' p, Same H H' → H' p = some (.tup [.str (S (wrd (t.drop a)).1), .int ((a + (wrd (t.drop a)).2.length : Nat) : Int)]) → Q (.ref p) H'
theorem hd_sl (l : List Nat) : ∀ r : List Nat, (r.take 1 = [] ∧ hdIn l r = false) ∨ ∃ d, r.take 1 = [d] ∧ hdIn l r = decide (d ∈ l)
  | [] => .inl ⟨rfl, rfl⟩
  | d :: _ => .inr ⟨d, rfl, rfl⟩
theorem dchar (c : Nat) (s : String) (k : Nat) (h : W s = [k]) : decide (V.str (S [c]) = V.str (Str.ofString s)) = decide (c = k) := by
  rw [dstr, h]
  by_cases e : c = k
  · rw [e, decide_eq_true rfl, decide_eq_true rfl]
  · rw [decide_eq_false e, decide_eq_false fun z => e (List.cons.inj z).1]
abbrev s_word_at : Stmt := top 22
abbrev N_word_at : List Str := ["text", "at", "signs", "behind"]
theorem sc_word_at : FnScope N_word_at ["text", "at", "signs"] (defScope s_word_at) := ⟨rfl, rfl, rfl, by decide +kernel, rfl, by decide +kernel, by decide +kernel⟩
theorem cl_word_at (F : Df K mg "word_at" s_word_at ["text", "at", "signs"]) (T : Tx mg) (c_run_from : Cl P w K mg base 1 "run_from" sp_run) : Cl P w K mg base 2 "word_at" sp_word_at := by
  refine F.cl sc_word_at (fun vs H Q E h => by obtain ⟨_, _, rfl, _⟩ := h; rfl) (fun f cdv A outer s H vs Q E hr h => ?_)
  have nd := sc_word_at.nd
  obtain ⟨t, a, rfl, ht, ha, k⟩ := h
  refine ⟨_, (pss_cons (pset 3 nd (pe_slice sl_str (pv 0) (po_some (pe_op op_add (pv 1) pe_int)) (po_some (pe_op op_add (pv 1) pe_int))))
    (pss_cons (ps_if (pt_cmpR op_in_sign (pe_ix ix_str (pv 0) (pv 1) (fun _ _ => rfl)) (C8.pe_gc rfl T.g_SMALL) rfl) (pss_one (ps_ret (pe_tup (pa_cons (C8.pe_gc rfl T.g_RUN) (pa_cons (pf c_run_from hr (by omega) rfl (pa_cons (pv 0) (pa_cons (pv 1) (pa_cons (C8.pe_gc rfl T.g_SMALL) pa_nil)))) pa_nil))))) pss_nil)
    (C8.pss_cut (ps_if (PW.pt (pw_and (pt_cmpR op_eq (pe_ix ix_str (pv 0) (pv 1) (fun _ _ => rfl)) pe_str (nomark _)) (pw_and (pt_cmpR op_ne (pv 3) pe_str (nomark _)) (pw_and1 (pt_cmpR op_in_sign (pv 3) (C8.pe_gc rfl T.g_SMALL) rfl))))) (pss_one (ps_ret (pe_tup (pa_cons (C8.pe_gc rfl T.g_NAME) (pa_cons (pf c_run_from hr (by omega) rfl (pa_cons (pv 0) (pa_cons (pe_op op_add (pv 1) pe_int) (pa_cons (C8.pe_gc rfl T.g_SMALL) pa_nil)))) pa_nil))))) pss_nil)
    (C8.pss_cut (ps_if (PW.pt (pw_or (pt_cmpR op_in_sign (pe_ix ix_str (pv 0) (pv 1) (fun _ _ => rfl)) (C8.pe_gc rfl T.g_FIGURES) rfl) (pw_or1 (PW.pt (pw_and (pt_cmpR op_eq (pe_ix ix_str (pv 0) (pv 1) (fun _ _ => rfl)) pe_str (nomark _)) (pw_and (pt_cmpR op_ne (pv 3) pe_str (nomark _)) (pw_and1 (pt_cmpR op_in_sign (pv 3) (C8.pe_gc rfl T.g_FIGURES) rfl)))))))) (pss_one (ps_ret (pe_tup (pa_cons (C8.pe_gc rfl T.g_NUMBER) (pa_cons (pf c_run_from hr (by omega) rfl (pa_cons (pv 0) (pa_cons (pe_op op_add (pv 1) pe_int) (pa_cons (C8.pe_gc rfl T.g_FIGURES) pa_nil)))) pa_nil))))) pss_nil)
    (pss_one (ps_ret (pe_tup (pa_cons (pe_ifExp (pt_cmpR op_in_sign (pe_ix ix_str (pv 0) (pv 1) (fun _ _ => rfl)) (pv 2) rfl) (C8.pe_gc rfl T.g_SIGN) (C8.pe_gc rfl T.g_ODD)) (pa_cons (pe_op op_add (pv 1) pe_int) pa_nil))))))))), ?_⟩
  have hz : (S t).length ≤ sizeLine := by rw [S_len]; exact sizes' ht
  have hat : atI (S t).cps.toList (a : Int) = some t[a] := atI_nat (List.getElem?_eq_getElem ha)
  have ed : t.drop a = t[a] :: t.drop (a + 1) := List.drop_eq_getElem_cons ha
  generalize hc : t[a] = c at *
  generalize hrr : t.drop (a + 1) = r at *
  have hrr2 : t.drop (a + 1) = r := hrr
  have eb : cutS (S t) (some ((a : Int) + 1)) (some ((a : Int) + 2)) = S (r.take 1) := by
    have := cutS_S t (a + 1) (a + 2) (by omega)
    rw [hrr2, show a + 2 - (a + 1) = 1 by omega] at this
    exact this
  refine ⟨_, rfl, _, rfl, _, 1, rfl, rfl, _, rfl, _, rfl, _, 2, rfl, rfl, _, rfl, _, rfl, hz, ?_⟩
  rw [eb]
  have k1 : ∀ {H' : Hp} {p : Addr} {so wd : List Nat} {i : Int}, wrd (c :: r) = (so, wd) → Same H H' → i = ((a + wd.length : Nat) : Int) → H' p = some (.tup [.str (S so), .int i]) → Q (.ref p) H' := fun {H' p so wd i} e s1 ei ep => by
    refine k H' p s1 ?_
    rw [ed, e, ep, ei]
  have w1 := wrd_cons c r
  clear k
  refine ⟨_, rfl, _, rfl, _, _, _, rfl, rfl, hz, hat, _, _, rfl, rfl, _, rfl, ?_⟩
  rw [small_cps]
  by_cases h1 : c ∈ smallL
  · rw [decide_eq_true h1]
    rw [if_pos h1] at w1
    refine iteT ⟨_, rfl, _, rfl, t, smallL, a, by rw [S_small]; rfl, ht, by omega, fun H' s' => ⟨lsz, fun p hp => ?_⟩⟩
    refine k1 w1 (s'.new hp) ?_ (by rw [upd_same, S_W])
    rw [ed]
  rw [decide_eq_false h1]
  rw [if_neg h1] at w1
  have lr : a + 1 ≤ t.length := ha
  refine iteF ⟨fun σ3 H3 => σ3 = [some (.str (S t)), some (.int a), some (.str (S sigL)), some (.str (S (r.take 1)))] ∧ H = H3 ∧ ¬ (c = 35 ∧ hdIn smallL r = true), ?_, ?_⟩
  · refine ⟨_, rfl, _, rfl, _, _, _, rfl, rfl, hz, hat, rfl, _, rfl, ?_⟩
    show if decide (V.str (S [c]) = V.str (Str.ofString "#")) = true then _ else _
    rw [dchar c "#" 35 (by decide +kernel)]
    by_cases h2 : c = 35
    · rw [decide_eq_true h2]
      refine iteT ⟨_, rfl, rfl, _, rfl, ?_⟩
      rw [dnil]
      rcases hd_sl smallL r with ⟨e1, e2⟩ | ⟨d, e1, e2⟩
      · rw [e1]
        exact iteF ⟨rfl, rfl, fun z => by rw [e2] at z; cases z.2⟩
      · rw [e1]
        refine iteT ⟨_, rfl, d, _, rfl, rfl, _, rfl, ?_⟩
        rw [small_cps]
        cases e3 : decide (d ∈ smallL) with
        | false => exact iteF ⟨rfl, rfl, fun z => by rw [e2, e3] at z; cases z.2⟩
        | true =>
          rw [if_pos ⟨h2, by rw [e2, e3]⟩] at w1
          refine iteT ⟨_, rfl, _, rfl, _, 1, rfl, rfl, t, smallL, a + 1, by rw [S_small]; rfl, ht, lr, fun H' s' => ⟨lsz, fun p hp => ?_⟩⟩
          refine k1 w1 (s'.new hp) ?_ (by rw [upd_same, S_W])
          rw [hrr2, List.length_cons]
          omega
    · rw [decide_eq_false h2]
      exact iteF ⟨rfl, rfl, fun z => h2 z.1⟩
  rintro σ3 H3 ⟨rfl, rfl, h2⟩
  rw [if_neg h2] at w1
  refine ⟨fun σ3 H3 => σ3 = [some (.str (S t)), some (.int a), some (.str (S sigL)), some (.str (S (r.take 1)))] ∧ H = H3 ∧ ¬ (c ∈ figL ∨ (c = 45 ∧ hdIn figL r = true)), ?_, ?_⟩
  · refine ⟨_, rfl, _, rfl, _, _, _, rfl, rfl, hz, hat, _, _, rfl, rfl, _, rfl, ?_⟩
    rw [cps_fig]
    by_cases h3 : c ∈ figL
    · rw [decide_eq_true h3]
      rw [if_pos (.inl h3)] at w1
      refine iteT ⟨_, rfl, _, rfl, _, 1, rfl, rfl, t, figL, a + 1, by rw [S_fig]; rfl, ht, lr, fun H' s' => ⟨lsz, fun p hp => ?_⟩⟩
      refine k1 w1 (s'.new hp) ?_ (by rw [upd_same, S_W])
      rw [hrr2, List.length_cons]
      omega
    · rw [decide_eq_false h3]
      refine iteF ⟨_, rfl, _, rfl, _, _, _, rfl, rfl, hz, hat, rfl, _, rfl, ?_⟩
      show if decide (V.str (S [c]) = V.str (Str.ofString "-")) = true then _ else _
      rw [dchar c "-" 45 (by decide +kernel)]
      by_cases h4 : c = 45
      · rw [decide_eq_true h4]
        refine iteT ⟨_, rfl, rfl, _, rfl, ?_⟩
        rw [dnil]
        rcases hd_sl figL r with ⟨e1, e2⟩ | ⟨d, e1, e2⟩
        · rw [e1]
          exact iteF ⟨rfl, rfl, fun z => by rcases z with z | z; exact h3 z; rw [e2] at z; cases z.2⟩
        · rw [e1]
          refine iteT ⟨_, rfl, d, _, rfl, rfl, _, rfl, ?_⟩
          rw [cps_fig]
          cases e3 : decide (d ∈ figL) with
          | false => exact iteF ⟨rfl, rfl, fun z => by rcases z with z | z; exact h3 z; rw [e2, e3] at z; cases z.2⟩
          | true =>
            rw [if_pos (.inr ⟨h4, by rw [e2, e3]⟩)] at w1
            refine iteT ⟨_, rfl, _, rfl, _, 1, rfl, rfl, t, figL, a + 1, by rw [S_fig]; rfl, ht, lr, fun H' s' => ⟨lsz, fun p hp => ?_⟩⟩
            refine k1 w1 (s'.new hp) ?_ (by rw [upd_same, S_W])
            rw [hrr2, List.length_cons]
            omega
      · rw [decide_eq_false h4]
        exact iteF ⟨rfl, rfl, fun z => by rcases z with z | z; exact h3 z; exact h4 z.1⟩
  rintro σ3 H3 ⟨rfl, rfl, h3⟩
  rw [if_neg h3] at w1
  refine ⟨_, rfl, _, rfl, _, _, _, rfl, rfl, hz, hat, _, rfl, _, _, rfl, rfl, _, rfl, ?_⟩
  show if decide (c ∈ sigL) = true then _ else _
  by_cases h5 : c ∈ sigL
  · rw [decide_eq_true h5]
    rw [if_pos h5] at w1
    refine iteT ⟨_, rfl, _, 1, rfl, rfl, lsz, fun p hp => k1 w1 ((Same.refl _).new hp) rfl (by rw [upd_same, S_W]; rfl)⟩
  · rw [decide_eq_false h5]
    rw [if_neg h5] at w1
    refine iteF ⟨_, rfl, _, 1, rfl, rfl, lsz, fun p hp => k1 w1 ((Same.refl _).new hp) rfl (by rw [upd_same, S_W]; rfl)⟩
def TokR (H : Hp) (v : V) (q : List Nat × List Nat) : Prop := ∃ p, v = .ref p ∧ H p = some (.tup [.str (S q.1), .str (S q.2)])
theorem TokR.gr {H H' : Hp} {v : V} {q : List Nat × List Nat} (r : TokR H v q) (g : Gr H H') : TokR H' v q := by
  obtain ⟨p, e, h⟩ := r
  exact ⟨p, e, g.tup _ _ h⟩
def ToksL (H : Hp) (a : Addr) (qs : List (List Nat × List Nat)) : Prop := ∃ xs, H a = some (.lst xs) ∧ All2 (TokR H) xs qs
structure DfD (K : PySem.W.Frag) (mg : Str → Option Value) (x : Str) (st : Stmt) (ps : List Str) (n : Nat) (dvs : List V) : Prop where
  ex : ∃ (f : Addr) (fd : FuncData), FunD K x x (defArgs st) (defBody st) (defScope st) dvs [] f fd ∧ mg x = some (.ref f)
  b : ∀ (T : Addr) (kV doc pm : Value) (an : Option Addr) (cdv ct : Value) (us its : List Value), us.length = n → its.length = dvs.length →
      ∃ k, bindArgs (PySem.W.fnOf x x (defArgs st) (defBody st) (defScope st) (.ref T) kV doc pm an cdv ct) ⟨us, []⟩ = seqItems? (.ref T) >>= k ∧ k (some its.toArray) = pure (ps.zip (us ++ its.drop 0))
  h0 : dvs ≠ []
  hn : n + (dvs.length - 0) = ps.length
structure ClD (P : Program) (w : World) (K : PySem.W.Frag) (mg : Str → Option Value) (base : Heap) (k : Nat) (x : Str) (sp : Sp) (dvs : List V) : Prop where
  ex : ∃ (f : Addr) (fd : FuncData) (ps : List Str) (ds : List Value), FnOk P w K mg base (L2.CX P w) k f fd ps sp ∧ mg x = some (.ref f) ∧ PySem.W.keepIn K (.ref f) = true ∧ Binds K fd ps ds ∧ Vals dvs ds
theorem DfD.cl {x : Str} {st : Stmt} {N ps : List Str} {k n : Nat} {sp : Sp} {dvs : List V} (F : DfD K mg x st ps n dvs) (S : FnScope N ps (defScope st)) (len : ∀ vs H Q E, sp vs H Q E → vs.length = ps.length)
    (hbody : ∀ (f : Addr) (cdv : Value) (A : Around) (outer : List Env) (s : Shared) (H : Hp) (vs : List V) (Q : VK) (E : XK), Room k (A.deeper (envOfC x (defScope st) s.heap.objs.size f cdv)) → sp vs H Q E →
      ∃ t, PSs (cxOf (L2.CX P w) P w K mg base N x (defScope st) f cdv A outer s H E) (defBody st) t ∧ t { nx := fun _ H' => Q .non H', rt := Q } (start N vs) H) : ClD P w K mg base (k + 1) x sp dvs := by
  obtain ⟨f, fd, FD, m⟩ := F.ex
  obtain ⟨ds, hv, hb⟩ := FD.binds1 n 0 F.h0 F.hn F.b
  exact ⟨f, fd, ps, ds, FD.ok S len fun cdv A outer s H vs Q E hr h => hbody f cdv A outer s H vs Q E hr h, m, FD.kp, hb, by rw [List.drop_zero] at hv; exact hv⟩
section
variable {X : Cx} {k j : Nat} {x : Str} {sp : Sp} {p pos : Pos} {e : Expr} {es : List Expr} {t : TA} {dvs : List V}
theorem pfD (c : ClD X.prog X.w X.K X.mg X.base k x sp dvs) (hr : Room j X.A) (hk : k ≤ j) (hg : Gl X x) (ha : PA X (e :: es) t)
    (hdb :
        (x == ("__debug__" : Str)) = false := by decide) (he : starEach (e :: es) X.env = (false, eval e X.env) :: starEach es X.env := by rfl) (hpl : (backTo pos (starEach es X.env)).any (·.1) = false := by rfl) :
    PE X (.Call
        (.Name x p) (e :: es) [] pos) (tCall sp dvs E0 t) := by
  obtain ⟨f, fd, ps, ds, F, m, kp, b, d⟩ := c.ex
  exact pe_call F (hr.mono hk) hg m kp b d passL ha hdb he hpl
end
def sp_words_of : Sp := fun vs H Q _ => ∃ t, vs = [.str (S t), .str (S sigL)] ∧ t.length ≤ 1000000 ∧ ∀ H' a, Same H H' → H a = none → ToksL H' a (toks t) → Q (.ref a) H'
theorem skip_at (t : List Nat) (a : Nat) : t.drop (a + (run [32] (t.drop a)).length) = skip (t.drop a) := by
  rw [← List.drop_drop, run_drop]
  rfl
abbrev s_words_of : Stmt := top 23
abbrev N_words_of : List Str := ["text", "signs", "found", "at", "sort", "end"]
theorem sc_words_of : FnScope N_words_of ["text", "signs"] (defScope s_words_of) := ⟨rfl, rfl, rfl, by decide +kernel, rfl, by decide +kernel, by decide +kernel⟩
theorem cl_words_of (F : DfD K mg "words_of" s_words_of ["text", "signs"] 1 [.str "()[]"]) (T : Tx mg) (c_run_from : Cl P w K mg base 1 "run_from" sp_run) (c_word_at : Cl P w K mg base 2 "word_at" sp_word_at) : ClD P w K mg base 3 "words_of" sp_words_of [.str "()[]"] := by
  refine F.cl sc_words_of (fun vs H Q E h => by obtain ⟨_, rfl, _⟩ := h; rfl) (fun f cdv A outer s H vs Q E hr h => ?_)
  have nd := sc_words_of.nd
  obtain ⟨t, rfl, ht, k⟩ := h
  refine ⟨_, (pss_cons (pset 2 nd (pe_lst pa_nil))
    (pss_cons (pset 3 nd (pf c_run_from hr (by omega) rfl (pa_cons (pv 0) (pa_cons pe_int (pa_cons pe_str pa_nil)))))
    (pss_cons (ps_while (passes_of rfl) (pt_cmpR op_lt (pv 3) (pe_callB (call_lenK K) rfl T.n_len PySem.boot_len (pa_cons (pv 0) pa_nil)) (nomark _)) (pss_cons (ps_asg (pf c_word_at hr (by omega) rfl (pa_cons (pv 0) (pa_cons (pv 3) (pa_cons (pv 1) pa_nil)))) (pg_tupK (n := 2) K rfl (pgs_cons (pgn 4 nd) (pgs_cons (pgn 5 nd) pgs_nil))))
      (pss_cons (ps_expr (pe_bm PySem.F.plainAttrs_list PySem.F.slot_list_append PySem.F.type_list_append mt_append (pv 2) (pa_cons (pe_tup (pa_cons (pv 4) (pa_cons (pe_slice sl_str (pv 0) (po_some (pv 3)) (po_some (pv 5))) pa_nil))) pa_nil)))
      (pss_one (pset 3 nd (pe_ifExp (pt_cmpR op_ne (pv 4) (C8.pe_gc rfl T.g_ODD) (nomark _)) (pf c_run_from hr (by omega) rfl (pa_cons (pv 0) (pa_cons (pv 5) (pa_cons pe_str pa_nil)))) (pe_callB (call_lenK K) rfl T.n_len PySem.boot_len (pa_cons (pv 0) pa_nil))))))))
    (pss_one (ps_ret (pv 2)))))), ?_⟩
  have hz : (S t).length ≤ sizeLine := by rw [S_len]; exact sizes' ht
  refine ⟨lsz, fun F0 hF => ⟨_, rfl, t, [32], 0, by rw [S_sp]; rfl, ht, Nat.zero_le _, fun H1 s1 => ?_⟩⟩
  have s0 : Same H H1 := ((Same.refl _).new hF).trans s1
  refine ⟨fun m σ' H' => ∃ (a : Nat) (xs : List V) (qs : List (List Nat × List Nat)) (so en : Option V), σ' = [some (.str (S t)), some (.str (S sigL)), some (.ref F0), some (.int a), so, en] ∧ a ≤ t.length ∧ Same H H' ∧ H' F0 = some (.lst xs) ∧ All2 (TokR H') xs qs ∧ xs.length ≤ a ∧ t.length - a < m ∧ qs ++ tks m (t.drop a) = toks t,
    ⟨t.length + 1, 0 + (run [32] (t.drop 0)).length, [], [], none, none, rfl, ?_, s0, s1 _ _ upd_same, All2.nil, Nat.zero_le _, by omega, ?_⟩, ?_⟩
  · have := run_le [32] (t.drop 0)
    rw [List.drop_zero] at this
    rw [List.drop_zero]
    omega
  · rw [List.nil_append, skip_at, List.drop_zero]
    rfl
  rintro m σ' H' ⟨a, xs, qs, so, en, rfl, ha, s2, eF, hq, lx, hm, et⟩
  obtain ⟨m, rfl⟩ : ∃ m', m = m' + 1 := ⟨m - 1, by omega⟩
  refine ⟨_, rfl, _, rfl, .str (S t), (S t).length, rfl, ⟨hz, rfl⟩, _, _, rfl, rfl, _, rfl, ?_⟩
  rw [S_len]
  by_cases h1 : a < t.length
  · rw [decide_eq_true (show (a : Int) < (t.length : Int) by omega)]
    have ed : t.drop a = t[a] :: t.drop (a + 1) := List.drop_eq_getElem_cons h1
    have wt := wrd_take (c := t[a]) (r := t.drop (a + 1))
    have etk : tks (m + 1) (t.drop a) = wrd (t.drop a) :: (if (wrd (t.drop a)).1 = W "odd" then [] else tks m (skip ((t.drop a).drop (wrd (t.drop a)).2.length))) := by
      rw [ed]
      rfl
    rw [← ed] at wt
    rw [List.length_drop] at wt
    refine iteT ⟨_, fun _ _ h => h, ?_⟩
    refine ⟨_, rfl, _, rfl, _, rfl, t, a, rfl, ht, h1, fun H3 p s3 ep => ?_⟩
    generalize wrd (t.drop a) = q at *
    obtain ⟨so2, wd⟩ := q
    have wt1 : 1 ≤ wd.length := wt.2.1
    have wt2 : wd.length ≤ t.length - (a + 1) + 1 := wt.2.2
    refine ⟨p, _, rfl, sqt ep, rfl, _, _, rfl, _, [], rfl, rfl, ?_⟩
    have eF3 := s3 _ _ eF
    refine ⟨_, rfl, .inl ⟨rfl, _, sql eF3⟩, _, rfl, _, rfl, _, rfl, _, rfl, _, rfl, _, rfl, _, rfl, hz, ?_⟩
    have ew : cutS (S t) (some (a : Int)) (some ((a + wd.length : Nat) : Int)) = S wd := by
      rw [cutS_S t a (a + wd.length) (by omega), show a + wd.length - a = wd.length by omega]
      exact congrArg S wt.1
    rw [ew]
    refine ⟨lsz, fun p2 hp2 => ⟨F0, xs, .ref p2, rfl, rfl, up_ne eF3 hp2, sizes (by omega), ?_⟩⟩
    have s4 : Same H' (upd H3 p2 (.tup [.str (S so2), .str (S wd)])) := s3.new hp2
    have g5 : Gr H' (upd (upd H3 p2 (.tup [.str (S so2), .str (S wd)])) F0 (.lst (xs ++ [.ref p2]))) := (Gr.of s4).trans (gr_put (up_ne eF3 hp2))
    have s5 : Same H (upd (upd H3 p2 (.tup [.str (S so2), .str (S wd)])) F0 (.lst (xs ++ [.ref p2]))) := (s2.trans s4).put hF
    have eF5 : (upd (upd H3 p2 (.tup [.str (S so2), .str (S wd)])) F0 (.lst (xs ++ [.ref p2]))) F0 = some (.lst (xs ++ [.ref p2])) := upd_same
    have ep5 : (upd (upd H3 p2 (.tup [.str (S so2), .str (S wd)])) F0 (.lst (xs ++ [.ref p2]))) p2 = some (.tup [.str (S so2), .str (S wd)]) := by
      rw [upd_ne (Ne.symm (ne_of_none eF3 hp2)), upd_same]
    generalize (upd (upd H3 p2 (.tup [.str (S so2), .str (S wd)])) F0 (.lst (xs ++ [.ref p2]))) = H5 at *
    have hq5 : All2 (TokR H5) (xs ++ [.ref p2]) (qs ++ [(so2, wd)]) := (hq.mono fun v q r => r.gr g5).app (All2.one ⟨p2, rfl, ep5⟩)
    have lx5 : (xs ++ [V.ref p2]).length ≤ a + wd.length := by
      (rw [List.length_append, List.length_singleton])
      omega
    (refine ⟨_, rfl, rfl, _, rfl, ?_⟩)
    rw [dstr so2 "odd"]
    by_cases ho : so2 = W "odd"
    · rw [decide_eq_true ho]
      refine iteF ⟨_, rfl, .str (S t), (S t).length, rfl, ⟨hz, rfl⟩, m, Nat.lt_succ_self m, t.length, xs ++ [.ref p2], qs ++ [(so2, wd)], _, _, by rw [S_len]; rfl, Nat.le_refl _, s5, eF5, hq5, by omega, by omega, ?_⟩
      rw [← et, etk, if_pos ho, List.drop_length, List.append_assoc]
      cases m <;> rfl
    · rw [decide_eq_false ho]
      have hrl := run_le [32] (t.drop (a + wd.length))
      rw [List.length_drop] at hrl
      refine iteT ⟨_, rfl, _, rfl, t, [32], a + wd.length, by rw [S_sp]; rfl, ht, by omega, fun H6 s6 => ?_⟩
      refine ⟨m, Nat.lt_succ_self m, a + wd.length + (run [32] (t.drop (a + wd.length))).length, xs ++ [.ref p2], qs ++ [(so2, wd)], _, _, rfl, by omega, s5.trans s6, s6 _ _ eF5, hq5.mono fun v q r => r.gr (.of s6), by omega, by omega, ?_⟩
      rw [← et, etk, if_neg ho, skip_at, List.append_assoc, List.drop_drop]
      rfl
  · rw [decide_eq_false (show ¬ (a : Int) < (t.length : Int) by omega)]
    have : t.drop a = [] := List.drop_eq_nil_of_le (by omega)
    rw [this] at et
    have et : qs ++ [] = toks t := et
    rw [List.append_nil] at et
    refine iteF ⟨_, rfl, k _ F0 s2 hF ⟨xs, eF, ?_⟩⟩
    rw [← et]
    exact hq
def sp_need_words : Sp := fun vs H Q _ => ∃ t, vs = [.str (S t)] ∧ t.length ≤ 30000 ∧ ∀ H' a, Same H H' → H a = none → ToksL H' a (toks t) → Q (.ref a) H'
abbrev s_need_words : Stmt := top 58
abbrev N_need_words : List Str := ["text"]
theorem sc_need_words : FnScope N_need_words ["text"] (defScope s_need_words) := ⟨rfl, rfl, rfl, by decide +kernel, rfl, by decide +kernel, by decide +kernel⟩
theorem cl_need_words (F : Df K mg "need_words" s_need_words ["text"]) (T : Tx mg) (c_words_of : ClD P w K mg base 3 "words_of" sp_words_of [.str "()[]"]) : Cl P w K mg base 4 "need_words" sp_need_words := by
  refine F.cl sc_need_words (fun vs H Q E h => by obtain ⟨_, rfl, _⟩ := h; rfl) (fun f cdv A outer s H vs Q E hr h => ?_)
  have nd := sc_need_words.nd
  obtain ⟨t, rfl, ht, k⟩ := h
  refine ⟨_, (pss_cons (ps_if (PW.pt (pw_or (pt_not (pt_val (pe_callB (call_isDK K) rfl T.n_isinstance bb_isinstance (pa_cons (pv 0) (pa_cons (pty (n := "str") rfl T.n_str bt_str) pa_nil))))) (pw_or1 (pt_cmpR op_gt (pe_callB (call_lenK K) rfl T.n_len PySem.boot_len (pa_cons (pv 0) pa_nil)) (C8.pe_gc rfl T.g_MOST_SIGNS) (nomark _))))) (pss_one ps_never) pss_nil)
    (pss_one (ps_ret (pfD c_words_of hr (by omega) rfl (pa_cons (pv 0) pa_nil))))), ?_⟩
  have hz : (S t).length ≤ sizeLine := by rw [S_len]; exact sizes' (by omega)
  refine ⟨_, rfl, _, .str t, "str", rfl, by decide, .str t (by omega), _, rfl, iteF ?_⟩
  refine ⟨_, rfl, .str (S t), (S t).length, rfl, ⟨hz, rfl⟩, _, _, rfl, rfl, _, rfl, ?_⟩
  rw [S_len, decide_eq_false (show ¬ (30000 : Int) < (t.length : Int) by omega)]
  exact iteF ⟨_, rfl, t, by rw [S_sig]; rfl, by omega, k⟩
end
end K6
set_option maxHeartbeats 4000001
namespace K6
open L2 PySem PySem.Spec PyProof.Rows
theorem S_min : (Str.ofString "-" : Str) = S [45] := by decide +kernel
theorem lstrip_min (w : List Nat) : Txt.lstripChars (S w) (Str.ofString "-") = S (w.dropWhile fun c => decide (c = 45)) := by
  rw [S_min]
  have hc : ∀ c, (S [45]).cps.contains c = decide (c = 45) := fun c => by
    show ([45].toArray.contains c) = _
    by_cases h : c = 45
    · rw [h, decide_eq_true rfl]
      simp
    · rw [decide_eq_false h]
      simp [h]
  unfold Txt.lstripChars Txt.stripBy
  have e1 : stripLo (S [45]).cps.contains true (S w) = (w.takeWhile fun c => decide (c = 45)).length := by
    unfold stripLo
    rw [if_pos rfl]
    congr 2
    funext c
    exact hc c
  have hd : w.drop (w.takeWhile fun c => decide (c = 45)).length = w.dropWhile fun c => decide (c = 45) := by
    have := run_drop [45] w
    unfold run at this
    simpa using this
  have hl : (w.takeWhile fun c => decide (c = 45)).length ≤ w.length := by
    have := run_le [45] w
    unfold run at this
    simpa using this
  split
  · rename_i h
    unfold stripSame at h
    rw [e1, Bool.and_eq_true] at h
    have h0 := eq_of_beq h.1
    rw [← hd, h0, List.drop_zero]
  · unfold stripped
    rw [e1]
    show Builtin.Str.strSub (S w) _ (S w).length = _
    refine TL.ext_tl ?_
    show ((S w).cps.extract _ (S w).length).toList = _
    rw [Array.toList_extract, S_len, List.extract_eq_take_drop]
    show List.take _ (List.drop _ w) = _
    rw [hd, List.take_of_length_le]
    rw [← hd, List.length_drop]
    omega
theorem numL_head : ∀ n : Nat, 1 ≤ n → ∃ c r, TL.numL n = c :: r ∧ 49 ≤ c ∧ c ≤ 57 := by
  intro nn
  induction nn using Nat.strongRecOn with
  | _ nn ih =>
    intro h1
    by_cases h : nn < 10
    · rw [TL.numL_lt h]
      exact ⟨48 + nn, [], rfl, by omega, by omega⟩
    · rw [TL.numL_step (by omega)]
      obtain ⟨c, r, e, h2⟩ := ih (nn / 10) (by omega) (by omega)
      exact ⟨c, r ++ [48 + nn % 10], by rw [e]; rfl, h2⟩
theorem numW_own (i : Int) : (numW i).dropWhile (fun c => decide (c = 45)) = TL.numL i.natAbs := by
  have h : ∀ n, (TL.numL n).dropWhile (fun c => decide (c = 45)) = TL.numL n := fun n => by
    cases e : TL.numL n with
    | nil => rfl
    | cons c r =>
      have := TL.numL_digits n c (by rw [e]; exact List.mem_cons_self)
      rw [List.dropWhile_cons, if_neg (by simp; omega)]
  cases i with
  | ofNat n => exact h n
  | negSucc n =>
    show (45 :: TL.numL (n + 1)).dropWhile _ = _
    rw [List.dropWhile_cons, if_pos (by decide), h]
    rfl
theorem numW_read {i : Int} (hl : (numW i).length ≤ 640) : PySem.intText? (S (numW i)) = some i := by
  cases i with
  | ofNat n =>
    have := TL.int_num (n := n) (by show (numW (.ofNat n)).length ≤ 4300; omega)
    rw [SX.num_S] at this
    exact this
  | negSucc n =>
    have := intText_neg (x := S (numW (.negSucc n))) (cs := TL.numL (n + 1)) rfl (TL.numL_digits _) (TL.numL_ne _) (by rw [S_len]; omega)
    rw [TL.numL_val] at this
    exact this
def sp_number_in : Sp := fun vs H Q _ => ∃ v so w, ∃ fg : Nat, vs = [v, .int fg] ∧ TokR H v (so, w) ∧ w.length ≤ 1000000 ∧ fg ≤ 60 ∧ 1 ≤ fg ∧ ((so ≠ W "number" ∧ ∀ H', Same H H' → Q .non H') ∨ ∃ i : Int, so = W "number" ∧ w = numW i ∧ i.natAbs < 10 ^ fg ∧ ∀ H', Same H H' → Q (.int i) H')
section
variable {P : Program}
variable {w : World} {K : PySem.W.Frag} {mg : Str → Option Value} {base : Heap}
abbrev s_number_in : Stmt := top 25
abbrev N_number_in : List Str := ["word", "figures", "sort", "text", "own"]
theorem sc_number_in : FnScope N_number_in ["word", "figures"] (defScope s_number_in) := ⟨rfl, rfl, rfl, by decide +kernel, rfl, by decide +kernel, by decide +kernel⟩
theorem cl_number_in (F : Df K mg "number_in" s_number_in ["word", "figures"]) (T : Tx mg) : Cl P w K mg base 1 "number_in" sp_number_in := by
  refine F.cl sc_number_in (fun vs H Q E h => by obtain ⟨_, _, _, _, rfl, _⟩ := h; rfl) (fun f cdv A outer s H vs Q E hr h => ?_)
  have nd := sc_number_in.nd
  obtain ⟨v, so, wd, fg, rfl, ⟨p, rfl, ep⟩, hz, hfg, hfg1, hcase⟩ := h
  refine ⟨_, (pss_cons (ps_asg (pv 0) (pg_tupK (n := 2) K rfl (pgs_cons (pgn 2 nd) (pgs_cons (pgn 3 nd) pgs_nil))))
    (pss_cons (pset 4 nd (pe_bm PySem.F.plainAttrs_str PySem.F.slot_str_lstrip PySem.F.type_str_lstrip mt_lstripChars (pv 3) (pa_cons pe_str pa_nil)))
    (pss_cons (ps_if (PW.pt (pw_or (pt_cmpR op_ne (pv 2) (C8.pe_gc rfl T.g_NUMBER) (nomark _)) (pw_or (pt_cmpR op_gt (pe_callB (call_lenK K) rfl T.n_len PySem.boot_len (pa_cons (pv 4) pa_nil)) (pv 1) (nomark _)) (pw_or1 (PW.pt (pw_and (pt_cmpR op_eq (pe_ix ix_str (pv 4) pe_int (fun _ _ => rfl)) pe_str (nomark _)) (pw_and1 (pt_cmpR op_ne (pv 3) pe_str (nomark _))))))))) (pss_one (ps_ret pe_non)) pss_nil)
    (pss_one (ps_ret (pe_callTy call_int_str rfl T.n_int bt_int (pa_cons (pv 3) pa_nil))))))), ?_⟩
  have hz2 : (S wd).length ≤ sizeLine := by rw [S_len]; exact sizes' hz
  refine ⟨_, rfl, p, _, rfl, sqt ep, rfl, _, _, rfl, _, [], rfl, rfl, _, rfl, rfl, _, _, rfl, rfl, hz2, ?_⟩
  rw [lstrip_min]
  (refine ⟨_, rfl, rfl, _, rfl, ?_⟩)
  rw [dstr so "number"]
  rcases hcase with ⟨ho, k⟩ | ⟨i, ho, rfl, hi, k⟩
  · rw [decide_eq_false ho]
    exact iteT (k _ (Same.refl _))
  rw [decide_eq_true ho, numW_own]
  have hl := TL.numL_len (n := i.natAbs) (k := fg) (by omega) hi
  have hz3 : (S (TL.numL i.natAbs)).length ≤ sizeLine := by rw [S_len]; exact sizes' (by omega)
  refine iteF ⟨_, rfl, .str (S (TL.numL i.natAbs)), (S (TL.numL i.natAbs)).length, rfl, ⟨hz3, rfl⟩, _, rfl, _, _, rfl, rfl, _, rfl, ?_⟩
  rw [S_len, decide_eq_false (show ¬ (fg : Int) < ((TL.numL i.natAbs).length : Int) by omega)]
  have hwl : (numW i).length ≤ 640 := by
    cases i with
    | ofNat n =>
      have : (numW (.ofNat n)).length = (TL.numL (Int.natAbs (Int.ofNat n))).length := rfl
      omega
    | negSucc n =>
      have : (numW (.negSucc n)).length = (TL.numL (Int.natAbs (Int.negSucc n))).length + 1 := rfl
      omega
  obtain ⟨c, r, ec⟩ : ∃ c r, TL.numL i.natAbs = c :: r := by
    cases e : TL.numL i.natAbs with
    | nil => exact absurd e (TL.numL_ne _)
    | cons c r => exact ⟨c, r, rfl⟩
  have last : ∃ a n, [V.str (S (numW i))] = [V.str a] ∧ PySem.intText? a = some n ∧ a.length ≤ 640 ∧ Q (.int n) H := ⟨_, i, rfl, numW_read hwl, by rw [S_len]; exact hwl, k _ (Same.refl _)⟩
  refine iteF ⟨_, rfl, _, _, c, rfl, rfl, hz3, atI_nat (j := 0) (show (S (TL.numL i.natAbs)).cps.toList[0]? = some c by show (TL.numL i.natAbs)[0]? = some c; rw [ec]; rfl), rfl, _, rfl, ?_⟩
  show if decide (V.str (S [c]) = V.str (Str.ofString "0")) = true then _ else _
  rw [dchar c "0" 48 (by decide +kernel)]
  by_cases h0 : c = 48
  · rw [decide_eq_true h0]
    have hi0 : i.natAbs = 0 := by
      cases hh : i.natAbs with
      | zero => rfl
      | succ m =>
        obtain ⟨c', r', e', h49, _⟩ := numL_head i.natAbs (by omega)
        rw [ec] at e'
        have := (List.cons.inj e').1
        omega
    have hi1 : i = 0 := by omega
    refine iteT ⟨_, rfl, rfl, _, rfl, ?_⟩
    rw [dstr (numW i) "0", decide_eq_true (show numW i = W "0" by rw [hi1]; decide +kernel)]
    exact iteF ⟨_, rfl, last⟩
  · rw [decide_eq_false h0]
    exact iteF ⟨_, rfl, last⟩
end
end K6
set_option maxHeartbeats 4000001
namespace K6
open L2 PySem PySem.Spec PyProof.Rows
abbrev Tok2 := List Nat × List Nat
def LeafT (fg : Nat) (q : Tok2) (d : D) : Prop := (∃ i : Int, q = (W "number", numW i) ∧ i.natAbs < 10 ^ fg ∧ (numW i).length ≤ 1000 ∧ d = .int i) ∨ ∃ s, q = (W "name", 35 :: s) ∧ isNm s = true ∧ d = .str s
inductive TI (fg B : Nat) : List (List D) → List Tok2 → D → List Tok2 → Prop
  | leaf0 {q d r} : LeafT fg q d → TI fg B [] (q :: r) d r
  | leaf {q d0 qs top more d r} : LeafT fg q d0 → TI fg B ((top ++ [d0]) :: more) qs d r → TI fg B (top :: more) (q :: qs) d r
  | opn {qs rows d r} : rows.length < B → TI fg B ([] :: rows) qs d r → TI fg B rows ((W "sign", [91]) :: qs) d r
  | cls0 {top r} : TI fg B [top] ((W "sign", [93]) :: r) (.tup top) r
  | cls {top t2 more qs d r} : TI fg B ((t2 ++ [.tup top]) :: more) qs d r → TI fg B (top :: t2 :: more) ((W "sign", [93]) :: qs) d r
structure SI (H0 : Hp) (R0 : Addr) (H : Hp) (xs : List V) (rows : List (List D)) (n : Nat) : Prop where
  s : Same H0 H
  fr : H0 R0 = none
  at_ : H R0 = some (.lst xs)
  nd : xs.Nodup
  rep : All2 (fun v row => ∃ a ys, v = .ref a ∧ H0 a = none ∧ a ≠ R0 ∧ H a = some (.lst ys) ∧ Reps H ys row ∧ ys.length ≤ n) xs.reverse rows
  len : rows.length ≤ n
section
variable {H0 H H' : Hp} {R0 : Addr} {xs ys : List V} {rows : List (List D)} {row : List D} {n : Nat} {x : V}
theorem SI.same (h : SI H0 R0 H xs rows n) (s : Same H H') : SI H0 R0 H' xs rows n :=
  ⟨h.s.trans s, h.fr, s _ _ h.at_, h.nd, h.rep.mono fun v row ⟨a, ys, e, f, ne, ha, hr, l⟩ => ⟨a, ys, e, f, ne, s _ _ ha, hr.same s, l⟩, h.len⟩
theorem SI.up (h : SI H0 R0 H xs rows n) {m : Nat} (hm : n ≤ m) : SI H0 R0 H xs rows m :=
  ⟨h.s, h.fr, h.at_, h.nd, h.rep.mono fun v row ⟨a, ys, e, f, ne, ha, hr, l⟩ => ⟨a, ys, e, f, ne, ha, hr, by omega⟩, by have := h.len; omega⟩
theorem SI.xl (h : SI H0 R0 H xs rows n) : xs.length = rows.length := by
  have := h.rep.1
  rw [List.length_reverse] at this
  exact this
theorem SI.push (h : SI H0 R0 H xs rows n) {q : Addr} (hq : H q = none) : SI H0 R0 (upd (upd H q (.lst [])) R0 (.lst (xs ++ [.ref q]))) (xs ++ [.ref q]) ([] :: rows) (n + 1) := by
  have nq : R0 ≠ q := ne_of_none h.at_ hq
  have g : Gr H (upd (upd H q (.lst [])) R0 (.lst (xs ++ [.ref q]))) := (Gr.of ((Same.refl H).new hq)).trans (gr_put (up_ne h.at_ hq))
  refine ⟨(h.s.new hq).put h.fr, h.fr, upd_same, ?_, ?_, ?_⟩
  · rw [List.nodup_append]
    refine ⟨h.nd, by simp, fun v hv w hw => ?_⟩
    rw [List.mem_singleton] at hw
    subst hw
    have hv2 : v ∈ xs.reverse := List.mem_reverse.mpr hv
    obtain ⟨j, hj, ej⟩ := List.mem_iff_getElem.mp hv2
    obtain ⟨_, _, a, ys, e, _, _, ha, _⟩ := h.rep.getV (List.getElem?_eq_getElem hj)
    intro z
    rw [ej, z] at e
    cases e
    rw [hq] at ha
    cases ha
  · rw [List.reverse_append]
    refine All2.cons ⟨q, [], rfl, h.s.free hq, Ne.symm nq, ?_, Reps.nil, Nat.zero_le _⟩ (h.rep.mono fun v row ⟨a, ys, e, f, ne, ha, hr, l⟩ => ⟨a, ys, e, f, ne, ?_, hr.gr g, by omega⟩)
    · rw [upd_ne (Ne.symm nq), upd_same]
    · rw [upd_ne ne]
      exact up_ne ha hq
  · rw [List.length_cons]
    have := h.len
    omega
theorem SI.top (h : SI H0 R0 H xs (row :: rows) n) : ∃ zs a ys, xs = zs ++ [.ref a] ∧ H0 a = none ∧ a ≠ R0 ∧ H a = some (.lst ys) ∧ Reps H ys row ∧ ys.length ≤ n := by
  have hl := h.xl
  obtain ⟨zs, x, rfl⟩ := snoc_of (show xs ≠ [] from fun z => by subst z; simp at hl)
  have hr := h.rep
  rw [List.reverse_append] at hr
  obtain ⟨a, ys, rfl, r⟩ := All2.head hr
  exact ⟨zs, a, ys, rfl, r⟩
theorem SI.pop {a : Addr} (h : SI H0 R0 H (xs ++ [.ref a]) (row :: rows) n) : SI H0 R0 (upd H R0 (.lst xs)) xs rows n := by
  have hr := h.rep
  rw [List.reverse_append] at hr
  have g : Gr H (upd H R0 (.lst xs)) := gr_put h.at_
  refine ⟨h.s.put h.fr, h.fr, upd_same, (List.nodup_append.mp h.nd).1, (All2.tail hr).mono fun v row ⟨a, ys, e, f, ne, ha, hr, l⟩ => ⟨a, ys, e, f, ne, ?_, hr.gr g, l⟩, ?_⟩
  · rw [upd_ne ne]
    exact ha
  · have := h.len
    rw [List.length_cons] at this
    omega
theorem SI.add {a : Addr} {d : D} (h : SI H0 R0 H (xs ++ [.ref a]) (row :: rows) n) (e : H a = some (.lst ys)) (hx : Rep H x d) : SI H0 R0 (upd H a (.lst (ys ++ [x]))) (xs ++ [.ref a]) ((row ++ [d]) :: rows) (n + 1) := by
  have hr := h.rep
  rw [List.reverse_append] at hr
  obtain ⟨a', ys', e', f', n', ha', hr', l'⟩ := All2.head hr
  cases e'
  rw [e] at ha'
  cases ha'
  have g : Gr H (upd H a (.lst (ys ++ [x]))) := gr_put e
  refine ⟨h.s.put f', h.fr, ?_, h.nd, ?_, ?_⟩
  · rw [upd_ne (Ne.symm n')]
    exact h.at_
  · rw [List.reverse_append]
    refine All2.cons ⟨a, ys ++ [x], rfl, f', n', upd_same, (hr'.gr g).app (Reps.cons (hx.gr g) Reps.nil), by rw [List.length_append]; simp; exact l'⟩ ⟨(All2.tail hr).1, fun i v row h1 h2 => ?_⟩
    obtain ⟨b, zs, e2, f2, n2, hb, hr2, l2⟩ := (All2.tail hr).2 i v row h1 h2
    have nb : b ≠ a := fun z => by
      subst z
      have hm : v ∈ xs := List.mem_reverse.mp (List.mem_of_getElem? h1)
      rw [e2] at hm
      exact (List.nodup_append.mp h.nd).2.2 _ hm _ (List.mem_singleton.mpr rfl) rfl
    exact ⟨b, zs, e2, f2, n2, by rw [upd_ne nb]; exact hb, hr2.gr g, by omega⟩
  · have := h.len
    rw [List.length_cons] at this ⊢
    omega
end
theorem nm_len {s : List Nat} (h : isNm s = true) : s.length ≤ 8 := by
  have h2 : (decide (1 ≤ s.length) && (decide (s.length ≤ 8) && s.all fun c => decide (c ∈ smallL))) = true := h
  rw [Bool.and_eq_true, Bool.and_eq_true, decide_eq_true_eq, decide_eq_true_eq] at h2
  exact h2.2.1
theorem numW_inj {i j : Int} (h : numW i = numW j) : i = j := by
  have e1 : i.natAbs = j.natAbs := TL.numL_inj (by rw [← numW_own, ← numW_own, h])
  have nn : ∀ n m, TL.numL n ≠ 45 :: TL.numL m := fun n m z => by
    have := TL.numL_digits n 45 (by rw [z]; exact List.mem_cons_self)
    omega
  cases i with
  | ofNat a =>
    cases j with
    | ofNat b => exact congrArg Int.ofNat e1
    | negSucc b => exact absurd h (nn a (b + 1))
  | negSucc a =>
    cases j with
    | ofNat b => exact absurd h.symm (nn b (a + 1))
    | negSucc b =>
      have : a + 1 = b + 1 := e1
      congr 1
      omega
theorem leaf_one {fg : Nat} {q : Tok2} {d e : D} (h : LeafT fg q d) (h' : LeafT fg q e) : d = e := by
  have hnn : W "name" ≠ W "number" := by decide +kernel
  rcases h with ⟨i, rfl, _, _, rfl⟩ | ⟨s, rfl, _, rfl⟩
  · rcases h' with ⟨j, e, _, _, rfl⟩ | ⟨s, e, _⟩
    · rw [numW_inj (Prod.mk.inj e).2]
    · exact absurd (Prod.mk.inj e).1 (Ne.symm hnn)
  · rcases h' with ⟨j, e, _⟩ | ⟨s', e, _, rfl⟩
    · exact absurd (Prod.mk.inj e).1 hnn
    · rw [(List.cons.inj (Prod.mk.inj e).2).2]
theorem leaf_not {fg : Nat} {sq tq : List Nat} {d : D} (h : LeafT fg (sq, tq) d) : tq ≠ W "[" ∧ tq ≠ W "]" := by
  have e1 : W "[" = [91] := by decide +kernel
  have e2 : W "]" = [93] := by decide +kernel
  rw [e1, e2]
  have key : ∀ (i : Int) (c : Nat), c ≠ 45 → ¬ (48 ≤ c ∧ c ≤ 57) → numW i ≠ [c] := fun i c h1 h2 z => by
    cases i with
    | ofNat n => exact h2 (TL.numL_digits n c (by rw [show TL.numL n = [c] from z]; exact List.mem_cons_self))
    | negSucc n => exact h1 (List.cons.inj z).1.symm
  rcases h with ⟨i, e, _⟩ | ⟨s, e, _⟩
  · obtain ⟨_, rfl⟩ := Prod.mk.inj e
    exact ⟨key i 91 (by decide) (by decide), key i 93 (by decide) (by decide)⟩
  · obtain ⟨_, rfl⟩ := Prod.mk.inj e
    exact ⟨fun z => by have := (List.cons.inj z).1; omega, fun z => by have := (List.cons.inj z).1; omega⟩
def sp_thing_in : Sp := fun vs H Q _ => ∃ a qs, ∃ (at_ fg op : Nat) (d : D) (r : List Tok2), vs = [.ref a, .int at_, .int fg, .int op] ∧ ToksL H a qs ∧ qs.length ≤ 100000 ∧ fg ≤ 60 ∧ 1 ≤ fg ∧ op ≤ 40 ∧ TI fg (40 - op) [] (qs.drop at_) d r ∧
  ∀ H' p v, Same H H' → H' p = some (.tup [v, .int ((qs.length - r.length : Nat) : Int)]) → Rep H' v d → Q (.ref p) H'
section
variable {P : Program}
variable {w : World} {K : PySem.W.Frag} {mg : Str → Option Value} {base : Heap}
abbrev s_thing_in : Stmt := top 57
abbrev N_thing_in : List Str := ["words", "at", "figures", "opened", "rows", "sort", "text", "found"]
theorem sc_thing_in : FnScope N_thing_in ["words", "at", "figures", "opened"] (defScope s_thing_in) := ⟨rfl, rfl, rfl, by decide +kernel, rfl, by decide +kernel, by decide +kernel⟩
theorem cl_thing_in (F : Df K mg "thing_in" s_thing_in ["words", "at", "figures", "opened"]) (T : Tx mg) (c_number_in : Cl P w K mg base 1 "number_in" sp_number_in) (c_is_name : Cl P w K mg base 1 "is_name" (spB isName)) : Cl P w K mg base 2 "thing_in" sp_thing_in := by
  refine F.cl sc_thing_in (fun vs H Q E h => by obtain ⟨_, _, _, _, _, _, _, rfl, _⟩ := h; rfl) (fun f cdv A outer s H vs Q E hr h => ?_)
  have nd := sc_thing_in.nd
  obtain ⟨a, qs, at0, fg, op, d, r, rfl, ⟨ws, ew, aq⟩, hql, hfg, hfg1, hop, hti, k⟩ := h
  refine ⟨_, (pss_cons (pset 4 nd (pe_lst pa_nil))
    (pss_cons (ps_while (passes_of rfl) (pt_cmpR op_lt (pv 1) (pe_callB (call_lenK K) rfl T.n_len PySem.boot_len (pa_cons (pv 0) pa_nil)) (nomark _)) (pss_cons (ps_asg (pe_ix (ix_listK K) (pv 0) (pv 1) (fun _ _ => rfl)) (pg_tupK (n := 2) K rfl (pgs_cons (pgn 5 nd) (pgs_cons (pgn 6 nd) pgs_nil))))
      (C8.pss_cut (pset 7 nd (pf c_number_in hr (by omega) rfl (pa_cons (pe_ix (ix_listK K) (pv 0) (pv 1) (fun _ _ => rfl)) (pa_cons (pv 2) pa_nil))))
      (C8.pss_cut (ps_if (PW.pt (pw_and (pt_cmpR op_eq (pv 5) (C8.pe_gc rfl T.g_NAME) (nomark _)) (pw_and1 (pt_val (pf c_is_name hr (by omega) rfl (pa_cons (pe_slice sl_str (pv 6) (po_some pe_int) po_none) pa_nil)))))) (pss_one (pset 7 nd (pe_slice sl_str (pv 6) (po_some pe_int) po_none))) pss_nil)
      (C8.pss_cut (ps_if (PW.pt (pw_and (pt_cmpR op_eq (pv 6) pe_str (nomark _)) (pw_and1 (pt_cmpR op_lt (pe_op op_add (pv 3) (pe_callB (call_lenK K) rfl T.n_len PySem.boot_len (pa_cons (pv 4) pa_nil))) (C8.pe_gc rfl T.g_MOST_OPENED) (nomark _))))) (pss_one (ps_expr (pe_bm PySem.F.plainAttrs_list PySem.F.slot_list_append PySem.F.type_list_append mt_append (pv 4) (pa_cons (pe_lst pa_nil) pa_nil)))) (pss_one (ps_if (PW.pt (pw_and (pt_cmpR op_eq (pv 6) pe_str (nomark _)) (pw_and1 (pt_cmpR (op_neEK K hr) (pv 4) (pe_lst pa_nil) (nomark _))))) (pss_one (pset 7 nd (pe_callTy (call_tupK K) rfl T.n_tuple bt_tuple (pa_cons (pe_bm0 PySem.F.plainAttrs_list PySem.F.slot_list_pop PySem.F.type_list_pop mt_pop (pv 4)) pa_nil)))) (pss_one (ps_if (pt_cmpR op_isN (pv 7) pe_non (nomark _)) (pss_one ps_never) pss_nil)))))
      (pss_cons (ps_aug (i := 1) nd rfl (Or.inl rfl) pe_int ip_add)
      (pss_cons (ps_if (PW.pt (pw_and (pt_cmpR op_notN (pv 7) pe_non (nomark _)) (pw_and1 (pt_cmpR (op_eqEK K hr) (pv 4) (pe_lst pa_nil) (nomark _))))) (pss_one (ps_ret (pe_tup (pa_cons (pv 7) (pa_cons (pv 1) pa_nil))))) pss_nil)
      (pss_one (ps_if (pt_cmpR op_notN (pv 7) pe_non (nomark _)) (pss_one (ps_expr (pe_bm PySem.F.plainAttrs_list PySem.F.slot_list_append PySem.F.type_list_append mt_append (pe_ix (ix_listK K) (pv 4) (pe_un un_neg pe_int) (fun _ _ => rfl)) (pa_cons (pv 7) pa_nil)))) pss_nil)))))))))
    (pss_one ps_never))), ?_⟩
  refine ⟨lsz, fun R0 hR => ?_⟩
  have si0 : SI H R0 (upd H R0 (.lst [])) [] [] 0 := ⟨(Same.refl _).new hR, hR, upd_same, List.nodup_nil, All2.nil, Nat.le_refl _⟩
  refine ⟨fun m σ' H' => ∃ (at_ : Nat) (xs : List V) (rows : List (List D)) (so te fo : Option V), σ' = [some (.ref a), some (.int at_), some (.int fg), some (.int op), some (.ref R0), so, te, fo] ∧ SI H R0 H' xs rows at_ ∧ m = qs.length - at_ ∧ at_ ≤ qs.length ∧ TI fg (40 - op) rows (qs.drop at_) d r,
    ⟨_, at0, [], [], none, none, none, rfl, si0.up (Nat.zero_le _), rfl, ?_, hti⟩, ?_⟩
  · cases Nat.lt_or_ge qs.length at0 with
    | inl h =>
      rw [List.drop_eq_nil_of_le (by omega)] at hti
      cases hti
    | inr h => exact h
  rintro m σ' H' ⟨at_, xs, rows, so, te, fo, rfl, si, rfl, hat, ht⟩
  have ew' := si.s _ _ ew
  have hlt : at_ < qs.length := by
    cases Nat.lt_or_ge at_ qs.length with
    | inl h => exact h
    | inr h =>
      rw [List.drop_eq_nil_of_le h] at ht
      cases ht
  have ed : qs.drop at_ = qs[at_] :: qs.drop (at_ + 1) := List.drop_eq_getElem_cons hlt
  rw [ed] at ht
  obtain ⟨wv, hwv, p, rfl, epH⟩ := aq.get (List.getElem?_eq_getElem hlt)
  have ep := si.s _ _ epH
  generalize qs[at_] = q at *
  obtain ⟨sq, tq⟩ := q
  generalize hqs : qs.drop (at_ + 1) = rest at *
  have hk : (∃ d0, LeafT fg (sq, tq) d0 ∧ ((rows = [] ∧ d0 = d ∧ rest = r) ∨ ∃ top more, rows = top :: more ∧ TI fg (40 - op) ((top ++ [d0]) :: more) rest d r)) ∨
      (sq = W "sign" ∧ tq = [91] ∧ rows.length < 40 - op ∧ TI fg (40 - op) ([] :: rows) rest d r) ∨
      (sq = W "sign" ∧ tq = [93] ∧ ∃ top more, rows = top :: more ∧ ((more = [] ∧ D.tup top = d ∧ rest = r) ∨ ∃ t2 m2, more = t2 :: m2 ∧ TI fg (40 - op) ((t2 ++ [.tup top]) :: m2) rest d r)) := by
    cases ht with
    | leaf0 h => exact .inl ⟨_, h, .inl ⟨rfl, rfl, rfl⟩⟩
    | leaf h h2 => exact .inl ⟨_, h, .inr ⟨_, _, rfl, h2⟩⟩
    | opn h h2 => exact .inr (.inl ⟨rfl, rfl, h, h2⟩)
    | cls0 => exact .inr (.inr ⟨rfl, rfl, _, _, rfl, .inl ⟨rfl, rfl, rfl⟩⟩)
    | cls h => exact .inr (.inr ⟨rfl, rfl, _, _, rfl, .inr ⟨_, _, rfl, h⟩⟩)
  have hsn : W "sign" ≠ W "number" := by decide +kernel
  have hsm : W "sign" ≠ W "name" := by decide +kernel
  have hnn : W "name" ≠ W "number" := by decide +kernel
  have htq : tq.length ≤ 1000 := by
    rcases hk with ⟨d0, h, _⟩ | ⟨_, rfl, _⟩ | ⟨_, rfl, _⟩
    · rcases h with ⟨i, e, _, hl, _⟩ | ⟨s', e, hs, _⟩
      · obtain ⟨_, rfl⟩ := Prod.mk.inj e
        exact hl
      · obtain ⟨_, rfl⟩ := Prod.mk.inj e
        have := nm_len hs
        rw [List.length_cons]
        omega
    · decide
    · decide
  have hz : (S tq).length ≤ sizeLine := by rw [S_len]; exact sizes' (by omega)
  refine ⟨_, rfl, _, rfl, .ref a, ws.length, rfl, .inl ⟨ws, sql ew', rfl⟩, _, _, rfl, rfl, _, rfl, ?_⟩
  rw [aq.1, decide_eq_true (show (at_ : Int) < (qs.length : Int) by omega)]
  refine iteT ⟨_, fun _ _ h => h, ?_⟩
  refine ⟨_, rfl, _, rfl, a, ws, _, _, rfl, rfl, sql ew', atI_nat hwv, p, _, rfl, sqt ep, rfl, _, _, rfl, _, [], rfl, rfl, ?_⟩
  refine ⟨fun σ3 H3 => ∃ v0, σ3 = [some (.ref a), some (.int at_), some (.int fg), some (.int op), some (.ref R0), some (.str (S sq)), some (.str (S tq)), some v0] ∧ Same H' H3 ∧ ((sq ≠ W "number" ∧ v0 = .non) ∨ ∃ i : Int, sq = W "number" ∧ tq = numW i ∧ v0 = .int i), ?_, ?_⟩
  · refine ⟨_, rfl, _, rfl, a, ws, _, _, rfl, rfl, sql ew', atI_nat hwv, _, rfl, .ref p, sq, tq, fg, rfl, ⟨p, rfl, ep⟩, by omega, hfg, hfg1, ?_⟩
    rcases hk with ⟨d0, h, _⟩ | ⟨h, _, _⟩ | ⟨h, _, _⟩
    · rcases h with ⟨i, e, hi, hl, _⟩ | ⟨s', e, hs, _⟩
      · obtain ⟨e1, e2⟩ := Prod.mk.inj e
        exact .inr ⟨i, e1, e2, hi, fun H3 s3 => ⟨.int i, rfl, s3, .inr ⟨i, e1, e2, rfl⟩⟩⟩
      · obtain ⟨e1, e2⟩ := Prod.mk.inj e
        have hh : sq ≠ W "number" := by rw [e1]; exact hnn
        exact .inl ⟨hh, fun H3 s3 => ⟨.non, rfl, s3, .inl ⟨hh, rfl⟩⟩⟩
    · have hh : sq ≠ W "number" := by rw [h]; exact hsn
      exact .inl ⟨hh, fun H3 s3 => ⟨.non, rfl, s3, .inl ⟨hh, rfl⟩⟩⟩
    · have hh : sq ≠ W "number" := by rw [h]; exact hsn
      exact .inl ⟨hh, fun H3 s3 => ⟨.non, rfl, s3, .inl ⟨hh, rfl⟩⟩⟩
  rintro σ3 H3 ⟨v0, rfl, s3, hv0⟩
  have si3 := si.same s3
  refine ⟨fun σ4 H4 => ∃ v1, σ4 = [some (.ref a), some (.int at_), some (.int fg), some (.int op), some (.ref R0), some (.str (S sq)), some (.str (S tq)), some v1] ∧ Same H' H4 ∧ ((∃ d0, LeafT fg (sq, tq) d0 ∧ (∀ H5, Rep H5 v1 d0) ∧ v1 ≠ .non) ∨ (sq = W "sign" ∧ v1 = .non)), ?_, ?_⟩
  · refine ⟨_, rfl, rfl, _, rfl, ?_⟩
    rw [dstr sq "name"]
    rcases hk with ⟨d0, h, _⟩ | ⟨h, _, _⟩ | ⟨h, _, _⟩
    · rcases id h with ⟨i, e, hi, hl, rfl⟩ | ⟨s', e, hs, rfl⟩
      · obtain ⟨e1, e2⟩ := Prod.mk.inj e
        have hn : sq ≠ W "name" := by rw [e1]; exact Ne.symm hnn
        rw [decide_eq_false hn]
        rcases hv0 with ⟨h1, _⟩ | ⟨i', _, e3, rfl⟩
        · exact absurd e1 h1
        · have ei : i = i' := numW_inj (e2.symm.trans e3)
          subst ei
          exact iteF ⟨.int i, rfl, s3, .inl ⟨_, h, fun H5 => .int i, fun z => by cases z⟩⟩
      · obtain ⟨e1, e2⟩ := Prod.mk.inj e
        rw [decide_eq_true e1]
        have ecut : cutS (S tq) (some 1) none = S s' := by
          rw [C8.cutS_slice, SX.slice_from (by decide), e2]
          rfl
        have hsl := nm_len hs
        refine iteT ⟨_, rfl, _, rfl, _, rfl, hz, ?_⟩
        rw [ecut]
        refine ⟨_, .str s', rfl, .str s' (by omega), fun H4 s4 => ⟨_, rfl, ?_⟩⟩
        rw [show isName (.str s') = true from hs]
        refine iteT ⟨_, rfl, _, rfl, _, rfl, hz, ?_⟩
        rw [ecut]
        exact ⟨_, rfl, s3.trans s4, .inl ⟨_, h, fun H5 => .str s' (by omega), fun z => by cases z⟩⟩
    · have hn : sq ≠ W "name" := by rw [h]; exact hsm
      rw [decide_eq_false hn]
      rcases hv0 with ⟨_, rfl⟩ | ⟨i', e3, _⟩
      · exact iteF ⟨.non, rfl, s3, .inr ⟨h, rfl⟩⟩
      · exact absurd (h.symm.trans e3) hsn
    · have hn : sq ≠ W "name" := by rw [h]; exact hsm
      rw [decide_eq_false hn]
      rcases hv0 with ⟨_, rfl⟩ | ⟨i', e3, _⟩
      · exact iteF ⟨.non, rfl, s3, .inr ⟨h, rfl⟩⟩
      · exact absurd (h.symm.trans e3) hsn
  rintro σ4 H4 ⟨v1, rfl, s4, hv1⟩
  have si4 := si.same s4
  refine ⟨fun σ5 H5 => ∃ v2 xs' rows', σ5 = [some (.ref a), some (.int at_), some (.int fg), some (.int op), some (.ref R0), some (.str (S sq)), some (.str (S tq)), some v2] ∧ ((v2 = .non ∧ SI H R0 H5 xs' rows' (at_ + 1) ∧ TI fg (40 - op) rows' rest d r) ∨ ∃ d0, v2 ≠ .non ∧ SI H R0 H5 xs' rows' at_ ∧ Rep H5 v2 d0 ∧ ((rows' = [] ∧ d0 = d ∧ rest = r) ∨ ∃ top more, rows' = top :: more ∧ TI fg (40 - op) ((top ++ [d0]) :: more) rest d r)), ?_, ?_⟩
  · refine ⟨_, rfl, rfl, _, rfl, ?_⟩
    rw [dstr tq "["]
    rcases hk with ⟨d0, h, hrest⟩ | ⟨h, rfl, hlt2, hti⟩ | ⟨h, rfl, top, more, rfl, hrest⟩
    · obtain ⟨n1, n2⟩ := leaf_not h
      rw [decide_eq_false n1]
      refine iteF ⟨_, rfl, rfl, _, rfl, ?_⟩
      rw [dstr tq "]", decide_eq_false n2]
      rcases hv1 with ⟨d0', h', hr', hn'⟩ | ⟨e3, _⟩
      · have ed0 : d0' = d0 := leaf_one h' h
        subst ed0
        refine iteF ⟨_, rfl, rfl, _, rfl, ?_⟩
        rw [decide_eq_false hn']
        exact iteF ⟨v1, xs, rows, rfl, .inr ⟨d0', hn', si4, hr' _, hrest⟩⟩
      · rcases h with ⟨i, e, _⟩ | ⟨s', e, _⟩
        · exact absurd (e3.symm.trans (Prod.mk.inj e).1) hsn
        · exact absurd (e3.symm.trans (Prod.mk.inj e).1) hsm
    · rw [decide_eq_true (show ([91] : List Nat) = W "[" by decide +kernel)]
      have hxl := si4.xl
      refine iteT ⟨_, rfl, _, rfl, .ref R0, xs.length, rfl, .inl ⟨xs, sql si4.at_, rfl⟩, _, _, rfl, rfl, _, 40, rfl, rfl, _, rfl, ?_⟩
      rw [decide_eq_true (show (op : Int) + (xs.length : Int) < 40 by omega)]
      have hv1' : v1 = .non := by
        rcases hv1 with ⟨d0', h', _⟩ | ⟨_, e⟩
        · rcases h' with ⟨i, e, _⟩ | ⟨s', e, _⟩
          · exact absurd (h.symm.trans (Prod.mk.inj e).1) hsn
          · exact absurd (h.symm.trans (Prod.mk.inj e).1) hsm
        · exact e
      have hsl := si4.len
      exact iteT ⟨_, rfl, .inl ⟨rfl, _, sql si4.at_⟩, lsz, fun q hq => ⟨R0, xs, .ref q, rfl, rfl, up_ne si4.at_ hq, sizes (by omega), v1, xs ++ [.ref q], [] :: rows, rfl, .inl ⟨hv1', si4.push hq, hti⟩⟩⟩
    · rw [decide_eq_false (show ¬ ([93] : List Nat) = W "[" by decide +kernel)]
      refine iteF ⟨_, rfl, rfl, _, rfl, ?_⟩
      rw [dstr [93] "]", decide_eq_true (show ([93] : List Nat) = W "]" by decide +kernel)]
      obtain ⟨zs, aT, ys, rfl, fT, nT, eT, rT, lT⟩ := si4.top
      refine iteT ⟨_, rfl, lsz, fun q hq => ⟨R0, q, _, rfl, rfl, sql (up_ne si4.at_ hq), sql upd_same, _, rfl, ?_⟩⟩
      have eq : ((zs ++ [V.ref aT]).isEmpty != true) = true := by cases zs <;> rfl
      rw [eq]
      have si5 := si4.same ((Same.refl H4).new (o := .lst []) hq)
      have eT5 := up_ne (u := .lst []) eT hq
      have rT5 := rT.same ((Same.refl H4).new (o := .lst []) hq)
      generalize (upd H4 q (.lst [])) = H5 at *
      refine iteT ⟨_, rfl, .inl ⟨rfl, _, sql si5.at_⟩, R0, _, .ref aT, rfl, rfl, si5.at_, by simp, ?_⟩
      rw [List.dropLast_concat]
      have si6 := si5.pop
      have g6 : Gr H5 (upd H5 R0 (.lst zs)) := gr_put si5.at_
      have eT6 : (upd H5 R0 (.lst zs)) aT = some (.lst ys) := by rw [upd_ne nT]; exact eT5
      have rT6 := rT5.gr g6
      generalize (upd H5 R0 (.lst zs)) = H6 at *
      refine ⟨aT, ys, rfl, .inl ⟨sql eT6, fun l hl => ?_⟩⟩
      have s7 : Same H6 (upd H6 l (.tup ys)) := (Same.refl _).new hl
      refine ⟨.ref l, zs, more, rfl, .inr ⟨.tup top, (fun z => by cases z), si6.same s7, .tup upd_same rT6.1 (rT6.same s7).2, ?_⟩⟩
      rcases hrest with ⟨e1, e2, e3⟩ | ⟨t2, m2, e1, h2⟩
      · exact .inl ⟨e1, e2, e3⟩
      · exact .inr ⟨t2, m2, e1, h2⟩
  rintro σ5 H5 ⟨v2, xs', rows', rfl, hv2⟩
  (refine ⟨_, rfl, _, _, rfl, rfl, ?_⟩)
  have hat1 : ((at_ : Nat) : Int) + 1 = ((at_ + 1 : Nat) : Int) := rfl
  (refine ⟨_, rfl, rfl, _, rfl, ?_⟩)
  rcases hv2 with ⟨rfl, si5, hti⟩ | ⟨d0, hn, si5, hr2, hrest⟩
  · refine iteF ⟨_, rfl, rfl, _, rfl, ?_⟩
    exact iteF ⟨qs.length - (at_ + 1), by omega, at_ + 1, xs', rows', _, _, _, rfl, si5, rfl, hlt, by rw [hqs]; exact hti⟩
  · have hxl := si5.xl
    have hrl := si5.len
    rw [decide_eq_false hn]
    refine iteT ⟨_, rfl, lsz, fun q hq => ⟨R0, q, _, rfl, rfl, sql (up_ne si5.at_ hq), sql upd_same, _, rfl, ?_⟩⟩
    have si6 := si5.same ((Same.refl H5).new (o := .lst []) hq)
    have hr6 := hr2.same ((Same.refl H5).new (o := .lst []) hq)
    generalize (upd H5 q (.lst [])) = H6 at *
    rcases hrest with ⟨rfl, rfl, e3⟩ | ⟨top, more, rfl, hti⟩
    · have : xs' = [] := List.eq_nil_of_length_eq_zero hxl
      subst this
      refine iteT ⟨_, rfl, _, rfl, lsz, fun l hl => k _ l v2 (si6.s.new hl) ?_ (hr6.same ((Same.refl _).new hl))⟩
      rw [upd_same]
      have : ((at_ : Nat) : Int) + 1 = ((qs.length - r.length : Nat) : Int) := by
        rw [← e3, ← hqs, List.length_drop]
        omega
      show some (HO.tup [v2, V.int ((at_ : Nat) + 1)]) = _
      rw [this]
    · obtain ⟨zs, aT, ys, rfl, fT, nT, eT, rT, lT⟩ := si6.top
      have eq : ((zs ++ [V.ref aT]).isEmpty != false) = false := by cases zs <;> rfl
      rw [eq]
      refine iteF ⟨_, rfl, rfl, _, rfl, ?_⟩
      rw [decide_eq_false hn]
      refine iteT ⟨_, rfl, 1, rfl, R0, _, (-1 : Int), .ref aT, rfl, rfl, sql si6.at_, atI_last _ _, .inl ⟨rfl, _, sql eT⟩, _, rfl, aT, ys, v2, rfl, rfl, eT, sizes (by omega), qs.length - (at_ + 1), by omega, at_ + 1, zs ++ [.ref aT], (top ++ [d0]) :: more, _, _, _, rfl, ?_, rfl, hlt, by rw [hqs]; exact hti⟩
      exact si6.add eT hr6
end
end K6
set_option maxHeartbeats 4000001
namespace K6
open L2 PySem PySem.Spec PyProof.Rows
def sgT (c : Nat) : Tok2 := (W "sign", [c])
def ttk : Nat → D → List Tok2
  | 0, _ => []
  | n + 1, .tup ds => sgT 91 :: ((ds.map (ttk n)).flatten ++ [sgT 93])
  | _ + 1, .int i => [(W "number", numW i)]
  | _ + 1, .str s => [(W "name", 35 :: s)]
  | _ + 1, _ => []
theorem flatten_map {α β γ : Type} (f : α → List β) (g : β → γ) (l : List α) : ((l.map f).flatten).map g = (l.map fun x => (f x).map g).flatten := by
  induction l with
  | nil => rfl
  | cons a r ih => rw [List.map_cons, List.flatten_cons, List.map_append, ih, List.map_cons, List.flatten_cons]
theorem ttk_words : ∀ (n : Nat) (d : D), (ttk n d).map (·.2) = tw n d
  | 0, d => rfl
  | n + 1, .tup ds => by
    show [91] :: (((ds.map (ttk n)).flatten ++ [sgT 93]).map (·.2)) = [91] :: ((ds.map (tw n)).flatten ++ [[93]])
    rw [List.map_append, flatten_map]
    congr 2
    congr 1
    exact List.map_congr_left fun d _ => ttk_words n d
  | n + 1, .int i => rfl
  | n + 1, .str s => rfl
  | n + 1, .bl _ => rfl
  | n + 1, .non => rfl
  | n + 1, .oth => rfl
theorem gd_leaf {fg : Nat} (h1 : 1 ≤ fg) (h2 : fg ≤ 60) {i : Int} (h : gd ((10 ^ fg : Nat) : Int) (.int i) = true) : LeafT fg (W "number", numW i) (.int i) := by
  have h3 : (decide (-((10 ^ fg : Nat) : Int) < i) && decide (i < ((10 ^ fg : Nat) : Int))) = true := h
  rw [Bool.and_eq_true, decide_eq_true_eq, decide_eq_true_eq] at h3
  have hl := numW_len (by omega) h3.1 h3.2
  exact .inl ⟨i, rfl, by omega, by omega, rfl⟩
theorem ti_thing {fg B : Nat} (h1 : 1 ≤ fg) (h2 : fg ≤ 60) : ∀ (n : Nat) (d : D), tok (gd ((10 ^ fg : Nat) : Int)) n d = true →
    (∀ rest, n ≤ B → TI fg B [] (ttk n d ++ rest) d rest) ∧ ∀ top more rest d' r, more.length + 1 + n ≤ B → TI fg B ((top ++ [d]) :: more) rest d' r → TI fg B (top :: more) (ttk n d ++ rest) d' r
  | 0, d, h => by cases h
  | n + 1, .tup ds, h => by
    have h3 : (true && ds.all (tok (gd ((10 ^ fg : Nat) : Int)) n)) = true := h
    rw [Bool.true_and, List.all_eq_true] at h3
    have items : ∀ (l : List D), (∀ d ∈ l, tok (gd ((10 ^ fg : Nat) : Int)) n d = true) → ∀ acc R rest d' r, R.length + 1 + n ≤ B → TI fg B ((acc ++ l) :: R) (sgT 93 :: rest) d' r → TI fg B (acc :: R) ((l.map (ttk n)).flatten ++ (sgT 93 :: rest)) d' r := by
      intro l
      induction l with
      | nil =>
        intro _ acc R rest d' r _ h
        rw [List.append_nil] at h
        exact h
      | cons d l ih =>
        intro hl acc R rest d' r hB h
        rw [List.map_cons, List.flatten_cons, List.append_assoc]
        refine (ti_thing h1 h2 n d (hl d List.mem_cons_self)).2 acc R _ d' r hB ?_
        refine ih (fun d hd => hl d (List.mem_cons_of_mem _ hd)) (acc ++ [d]) R rest d' r hB ?_
        rw [List.append_assoc]
        exact h
    have e : ∀ rest, ttk (n + 1) (.tup ds) ++ rest = sgT 91 :: ((ds.map (ttk n)).flatten ++ (sgT 93 :: rest)) := fun rest => by
      show (sgT 91 :: ((ds.map (ttk n)).flatten ++ [sgT 93])) ++ rest = _
      rw [List.cons_append, List.append_assoc]
      rfl
    refine ⟨fun rest hB => ?_, fun top more rest d' r hB h => ?_⟩
    · rw [e]
      refine .opn (by show 0 < B; omega) (items ds h3 [] [] rest _ _ (by show 0 + 1 + n ≤ B; omega) ?_)
      rw [List.nil_append]
      exact .cls0
    · rw [e]
      refine .opn (by rw [List.length_cons]; omega) (items ds h3 [] (top :: more) rest _ _ (by rw [List.length_cons]; omega) ?_)
      rw [List.nil_append]
      exact .cls h
  | n + 1, .int i, h => ⟨fun rest _ => .leaf0 (gd_leaf h1 h2 h), fun top more rest d' r _ h' => .leaf (gd_leaf h1 h2 h) h'⟩
  | n + 1, .str s, h => ⟨fun rest _ => .leaf0 (.inr ⟨s, rfl, h, rfl⟩), fun top more rest d' r _ h' => .leaf (.inr ⟨s, rfl, h, rfl⟩) h'⟩
  | n + 1, .bl _, h => by cases h
  | n + 1, .non, h => by cases h
  | n + 1, .oth, h => by cases h
theorem tks_len : ∀ (n : Nat) (t : List Nat), (tks n t).length ≤ n
  | 0, t => Nat.zero_le _
  | n + 1, [] => Nat.zero_le _
  | n + 1, c :: r => by
    show (wrd (c :: r) :: (if _ then [] else tks n _)).length ≤ n + 1
    rw [List.length_cons]
    split
    · simp
    · exact Nat.succ_le_succ (tks_len n _)
end K6
set_option maxHeartbeats 4000001
namespace K6
open L2 PySem PySem.Spec PyProof.Rows
def runT (w : List Nat) : Tok2 := (W "run", w)
def numT (i : Int) : Tok2 := (W "number", numW i)
def ginT (g : D → List Tok2) (d : D) : List Tok2 := sgT 40 :: (g d ++ [sgT 41])
def argTk (g : D → List Tok2) : D → List Tok2
  | .tup ds => ginT g (.tup ds)
  | .int i => [numT i]
  | .str s => [runT s]
  | _ => [runT []]
def fstI : D → Int
  | .tup [.int i, _] => i
  | _ => 0
def gtk : Nat → D → List Tok2
  | 0, _ => []
  | n + 1, .tup (.str w :: args) => runT w :: (if w = W "just" then ttk 6 (args.getD 0 .non) else if w = W "some" then ((tupL (args.getD 0 .non)).map (ttk 6)).flatten
      else if w = W "mix" then ((tupL (args.getD 0 .non)).map fun p => numT (fstI p) :: ginT (gtk n) (sndD p)).flatten
      else if w = W "all" then ((tupL (args.getD 0 .non)).map (ginT (gtk n))).flatten else (args.map (argTk (gtk n))).flatten)
  | _ + 1, _ => []
theorem gin_words {g : D → List Tok2} {h : D → List (List Nat)} {d : D} (e : (g d).map (·.2) = h d) : (ginT g d).map (·.2) = gin h d := by
  show [40] :: ((g d ++ [sgT 41]).map (·.2)) = [40] :: (h d ++ [[41]])
  rw [List.map_append, e]
  rfl
theorem argTk_words {g : D → List Tok2} {h : D → List (List Nat)} {a : D} (e : (g a).map (·.2) = h a) : (argTk g a).map (·.2) = argWs h a := by
  cases a with
  | tup ds => exact gin_words e
  | _ => rfl
theorem gtk_words : ∀ (n : Nat) (d : D), fok n d = true → (gtk n d).map (·.2) = gws n d
  | 0, d, h => by cases h
  | n + 1, d, h => by
    obtain ⟨w, args, rfl, hl, hw⟩ := hf_split (fok_hf h)
    have hk := fok_kids h
    show w :: ((if w = W "just" then _ else if w = W "some" then _ else if w = W "mix" then _ else if w = W "all" then _ else _ : List Tok2).map (·.2)) = w :: (if w = W "just" then _ else if w = W "some" then _ else if w = W "mix" then _ else if w = W "all" then _ else _)
    congr 1
    by_cases e1 : w = W "just"
    · rw [if_pos e1, if_pos e1]
      exact ttk_words 6 _
    rw [if_neg e1, if_neg e1]
    by_cases e2 : w = W "some"
    · rw [if_pos e2, if_pos e2, flatten_map]
      congr 1
      exact List.map_congr_left fun t _ => ttk_words 6 t
    rw [if_neg e2, if_neg e2]
    by_cases e3 : w = W "mix"
    · rw [if_pos e3, if_pos e3, flatten_map]
      obtain ⟨ps, rfl, l1, l2, hps⟩ : ∃ ps : List (Int × D), args = [.tup (ps.map fun p => .tup [.int p.1, p.2])] ∧ 1 ≤ ps.length ∧ ps.length ≤ 6 ∧ ∀ p ∈ ps, 1 ≤ p.1 ∧ p.1 ≤ 9 := by subst e3; exact hf_mix hl hw
      have ek : kidsG (.tup (.str w :: [.tup (ps.map fun p => .tup [.int p.1, p.2])])) = ps.map (·.2) := by
        subst e3
        show ((ps.map fun p => D.tup [.int p.1, p.2]).map sndD) = _
        rw [List.map_map]
        rfl
      congr 1
      refine List.map_congr_left fun t ht => ?_
      obtain ⟨p, hp, rfl⟩ := List.mem_map.mp (show t ∈ ps.map fun p => D.tup [.int p.1, p.2] from ht)
      show numW p.1 :: ((ginT (gtk n) p.2).map (·.2)) = numW p.1 :: gin (gws n) p.2
      rw [gin_words (gtk_words n p.2 (hk p.2 (by rw [ek]; exact List.mem_map.mpr ⟨p, hp, rfl⟩)))]
    rw [if_neg e3, if_neg e3]
    by_cases e4 : w = W "all"
    · rw [if_pos e4, if_pos e4, flatten_map]
      obtain ⟨ts, rfl, l2⟩ : ∃ ds : List D, args = [.tup ds] ∧ ds.length ≤ 6 := by subst e4; exact hf_all hl hw
      have ek : kidsG (.tup (.str w :: [.tup ts])) = ts := by subst e4; rfl
      congr 1
      exact List.map_congr_left fun t ht => gin_words (gtk_words n t (hk t (by rw [ek]; exact ht)))
    rw [if_neg e4, if_neg e4, flatten_map]
    congr 1
    refine List.map_congr_left fun a ha => ?_
    rcases hf_args hl hw e1 e2 e3 e4 a ha with ⟨i, rfl, _⟩ | ⟨s, rfl, _⟩ | hka
    · rfl
    · rfl
    · exact argTk_words (gtk_words n a (hk a hka))
theorem argTk_kid {g : D → List Tok2} {d : D} (h : hf d = true) : argTk g d = ginT g d := by
  obtain ⟨w, args, rfl⟩ := hf_tup h
  rfl
def EndR (r : List Tok2) : Prop := r = [] ∨ ∃ r', r = sgT 41 :: r'
theorem ttk_head {n : Nat} {d : D} {b : Int} (h : tok (gd b) n d = true) : ∃ q r, ttk n d = q :: r ∧ (q.1 = W "number" ∨ q.1 = W "name" ∨ q = sgT 91) := by
  cases n with
  | zero => cases h
  | succ n =>
    cases d with
    | int i => exact ⟨_, _, rfl, .inl rfl⟩
    | str s => exact ⟨_, _, rfl, .inr (.inl rfl)⟩
    | tup ds => exact ⟨_, _, rfl, .inr (.inr rfl)⟩
    | _ => cases h
end K6
set_option maxHeartbeats 4000001
namespace K6
open L2 PySem PySem.Spec PyProof.Rows
structure Rdr (K : PySem.W.Frag) (mg : Str → Option Value) (C : Addr) : Prop where
  c : Cls K C
  m : mg "WordReader" = some (.ref C)
  nw : NoAttr K C "words"
  na : NoAttr K C "at"
  no : NoAttr K C "opened"
  mks : PySem.W.makesIn K C = true
  kp : (PySem.W.keepIn K (.ref C)) = true
section
variable {X : Cx} {C : Addr} {x m : Str} {sp : Sp} {p pos apos : Pos} {e o : Expr} {es : List Expr} {ta : TE} {t : TA} {j k : Nat} {f : Str}
theorem isFn_of {K : PySem.W.Frag} {v : Value} (h : PySem.W.typeIn K v = some (.type "function")) : PySem.W.isFn K v = true := by
  unfold PySem.W.isFn
  rw [h]
  exact beq_self_eq_true _
theorem pmeth {pl : Sem Bool} (R : Rdr X.K X.mg C) (c : Cm X.prog X.w X.K X.mg X.base k C m sp) (hr : Room j X.A) (hk : k ≤ j) (he : PE X o ta) (ha : PA X (e :: es) t)
    (hst : starEach
        (e :: es) X.env = (false, eval e X.env) :: starEach es X.env := by rfl) (hpl : (backTo pos (starEach es X.env)).any (·.1) = false := by rfl)
    (ht : eval
        (.Call (.Attribute o m apos) (e :: es) [] pos) X.env = (do
      let ov ← eval o X.env
      standAt apos.atName
      let (f, first) ← holding [ov]
          (getMethod ov m pl)
      callWith pos f first
          (backTo pos (starEach (e :: es) X.env)) (backToKw pos (keywordEach [] X.env))) := by rfl) :
    PE X (.Call (.Attribute o m apos) (e :: es) [] pos) (tMeth C m sp [] E0 ta t) := by
  obtain ⟨f, fd, ps, F, mm, ty, kp, b⟩ := c.ex
  exact pe_meth (pl := pl) he R.c ⟨mm, isFn_of ty, kp⟩ F (hr.mono hk) b .nil passL ha hst hpl ht
theorem pmeth0 {pl : Sem Bool} (R : Rdr X.K X.mg C) (c : Cm X.prog X.w X.K X.mg X.base k C m sp) (hr : Room j X.A) (hk : k ≤ j) (he : PE X o ta)
    (ht : eval
        (.Call (.Attribute o m apos) [] [] pos) X.env = (do
      let ov ← eval o X.env
      standAt apos.atName
      let (f, first) ← holding [ov]
          (getMethod ov m pl)
      callWith pos f first
          (backTo pos (starEach [] X.env)) (backToKw pos (keywordEach [] X.env))) := by rfl) :
    PE X (.Call (.Attribute o m apos) [] [] pos) (tMeth C m sp [] E0 ta tNil) := by
  obtain ⟨f, fd, ps, F, mm, ty, kp, b⟩ := c.ex
  exact pe_meth0 (pl := pl) he R.c ⟨mm, isFn_of ty, kp⟩ F (hr.mono hk) b .nil passL ht
theorem pmk_wr (R : Rdr X.K X.mg C) (c : Cm X.prog X.w X.K X.mg X.base k C "__init__" sp) (hr : Room j X.A) (hk : k + 1 ≤ j) (hg : Gl X "WordReader") (ha : PA X (e :: es) t)
    (he : starEach
        (e :: es) X.env = (false, eval e X.env) :: starEach es X.env := by rfl) (hpl : (backTo pos (starEach es X.env)).any (·.1) = false := by rfl) :
    PE X (.Call (.Name "WordReader" p) (e :: es) [] pos) (tMake C sp [] E0 t) := by
  obtain ⟨f, fd, ps, F, mm, ty, kp, b⟩ := c.ex
  exact pe_make ⟨R.mks, mm, isFn_of ty, R.kp⟩ F (hr.mono hk) hg R.m b .nil passL ha (by decide) he hpl
def gFld (K : PySem.W.Frag) (ta : TE) (f : Str) : TG := fun v σ H Q => ta σ H fun x H2 => ∃ a C dx fs, x = .ref a ∧ H2 a = some (.ins C dx fs) ∧ Cls K C ∧ NoAttr K C f ∧ fs.length < 1000 ∧ Q σ (upd H2 a (.ins C dx (putF f v fs)))
theorem pg_fld (ha : PE X o ta) : PG X (.Attribute o f pos) (gFld X.K ta f) := by
  (refine ⟨fun pins s σ H v u Q I r h => ?_⟩)
  rw [PySem.assign_Attribute]
  refine wpAny_bind (wpAny_holding (thn (ha.run pins s σ H _ I h) fun ov s2 ⟨x, H2, I2, rx, a, C, dx, fs, ex, ea, c, n, l, q2⟩ => ?_))
  subst ex
  (obtain rfl : ov = Value.ref a := rx)
  refine wpAny_bind (wpAny_standAt (wpAny_bind (wpAny_holding (setattr_ok I2 ea c n l r fun s3 I3 => ?_))))
  exact wpAny_release ⟨σ, _, I3, q2⟩
end
def RdF (C : Addr) (a wl : Addr) (H : Hp) (at_ op : Nat) : Prop := ∃ dx, H a = some (.ins C dx [("words", .ref wl), ("at", .int at_), ("opened", .int op)])
structure RdAt (C a wl : Addr) (qs : List Tok2) (H : Hp) (at_ op : Nat) : Prop where
  f : RdF C a wl H at_ op
  w : ToksL H wl qs
def Ka (a : Addr) (H H' : Hp) : Prop := ∀ b u, b ≠ a → H b = some u → H' b = some u
theorem Ka.refl {a : Addr} {H : Hp} : Ka a H H := fun _ _ _ h => h
theorem Ka.trans {a : Addr} {H H1 H2 : Hp} (x : Ka a H H1) (y : Ka a H1 H2) : Ka a H H2 := fun b u n h => y b u n (x b u n h)
theorem Ka.of {a : Addr} {H H' : Hp} (s : Same H H') : Ka a H H' := fun b u _ h => s b u h
theorem ka_put {a : Addr} {H : Hp} {o : HO} : Ka a H (upd H a o) := fun b u n h => by rw [upd_ne n]; exact h
theorem Ka.gr {C a wl : Addr} {H H' : Hp} {i j : Nat} (k : Ka a H H') (h : RdF C a wl H i j) : Gr H H' := by
  obtain ⟨dx, h⟩ := h
  refine ⟨fun b xs e => k b _ (ne_of e h (by intro z; cases z)) e, fun b xs e => ⟨xs, k b _ (ne_of e h (by intro z; cases z)) e⟩, fun b xs e => ⟨xs, k b _ (ne_of e h (by intro z; cases z)) e⟩⟩
theorem RdAt.ka {C a wl : Addr} {qs : List Tok2} {H H' : Hp} {i j i' j' : Nat} (h : RdAt C a wl qs H i j) (k : Ka a H H') (h' : RdF C a wl H' i' j') : RdAt C a wl qs H' i' j' := by
  obtain ⟨xs, e, aq⟩ := h.w
  obtain ⟨dx, hf⟩ := id h.f
  exact ⟨h', xs, k _ _ (ne_of e hf (by intro z; cases z)) e, aq.mono fun v q r => r.gr (k.gr h.f)⟩
theorem RdAt.same {C a wl : Addr} {qs : List Tok2} {H H' : Hp} {i j : Nat} (h : RdAt C a wl qs H i j) (s : Same H H') : RdAt C a wl qs H' i j := by
  obtain ⟨dx, hf⟩ := id h.f
  exact h.ka (.of s) ⟨dx, s _ _ hf⟩
def nxS (qs : List Tok2) (at_ : Nat) : List Nat := ((qs[at_]?).map (·.1)).getD []
def nxT (qs : List Tok2) (at_ : Nat) : List Nat := ((qs[at_]?).map (·.2)).getD []
def sp_next (C : Addr) (g : List Tok2 → Nat → List Nat) : Sp := fun vs H Q _ => ∃ a wl qs at_ op, vs = [.ref a] ∧ RdAt C a wl qs H at_ op ∧ ∀ H', Same H H' → Q (.str (S (g qs at_))) H'
def sp_past (C : Addr) : Sp := fun vs H Q _ => ∃ a wl qs at_ op q, vs = [.ref a, .bl true] ∧ RdAt C a wl qs H at_ op ∧ qs[at_]? = some q ∧ ∀ H', Ka a H H' → RdAt C a wl qs H' (at_ + 1) op → Q (.str (S q.2)) H'
section
variable {P : Program} {w : World} {K : PySem.W.Frag} {mg : Str → Option Value} {base : Heap} {C : Addr}
abbrev s_next_sort : Stmt := inClass (top 88) 1
abbrev N_next_sort : List Str := ["self"]
theorem sc_next_sort : FnScope N_next_sort ["self"] (defScope s_next_sort) := ⟨rfl, rfl, rfl, by decide +kernel, rfl, by decide +kernel, by decide +kernel⟩
theorem cm_next_sort (F : Mf K C "next_sort" "WordReader.next_sort" s_next_sort ["self"]) (T : Tx mg) (R : Rdr K mg C) : Cm P w K mg base 1 C "next_sort" (sp_next C nxS) := by
  refine F.cm sc_next_sort (fun vs H Q E h => by obtain ⟨_, _, _, _, _, rfl, _⟩ := h; rfl) (fun f cdv A outer s H vs Q E hr h => ?_)
  have nd := sc_next_sort.nd
  obtain ⟨a, wl, qs, at_, op, rfl, ⟨⟨dx, ef⟩, xs, ew, aq⟩, k⟩ := h
  refine ⟨_, (pss_one (ps_ret (pe_ifExp (pt_cmpR op_lt (pe_fld (pv 0) rfl) (pe_callB (call_lenK K) rfl T.n_len PySem.boot_len (pa_cons (pe_fld (pv 0) rfl) pa_nil)) (nomark _)) (pe_ix (ix_tupK K) (pe_ix (ix_listK K) (pe_fld (pv 0) rfl) (pe_fld (pv 0) rfl) (fun _ _ => rfl)) pe_int (fun _ _ => rfl)) pe_str))), ?_⟩
  refine ⟨_, rfl, a, C, dx, _, _, rfl, ef, R.c, R.na, rfl, _, rfl, a, C, dx, _, _, rfl, ef, R.c, R.nw, rfl, .ref wl, xs.length, rfl, .inl ⟨xs, sql ew, rfl⟩, _, _, rfl, rfl, _, rfl, ?_⟩
  have e1 : ((xs.length : Nat) : Int) = ((qs.length : Nat) : Int) := by rw [aq.1]
  rw [e1]
  by_cases h1 : at_ < qs.length
  · rw [decide_eq_true (show (at_ : Int) < (qs.length : Int) by omega)]
    obtain ⟨v, hv, p, rfl, ep⟩ := aq.get (List.getElem?_eq_getElem h1)
    have k1 := k H (Same.refl _)
    unfold nxS at k1
    rw [List.getElem?_eq_getElem h1] at k1
    exact iteT ⟨_, rfl, a, C, dx, _, _, rfl, ef, R.c, R.nw, rfl, _, rfl, a, C, dx, _, _, rfl, ef, R.c, R.na, rfl, wl, xs, _, _, rfl, rfl, sql ew, atI_nat hv, p, _, 0, _, rfl, rfl, sqt ep, rfl, k1⟩
  · rw [decide_eq_false (show ¬ (at_ : Int) < (qs.length : Int) by omega)]
    have k1 := k H (Same.refl _)
    unfold nxS at k1
    rw [List.getElem?_eq_none (by omega)] at k1
    have k2 : Q (.str (S [])) H := k1
    rw [← S_nil] at k2
    exact iteF k2
abbrev s_next_text : Stmt := inClass (top 88) 2
abbrev N_next_text : List Str := ["self"]
theorem sc_next_text : FnScope N_next_text ["self"] (defScope s_next_text) := ⟨rfl, rfl, rfl, by decide +kernel, rfl, by decide +kernel, by decide +kernel⟩
theorem cm_next_text (F : Mf K C "next_text" "WordReader.next_text" s_next_text ["self"]) (T : Tx mg) (R : Rdr K mg C) : Cm P w K mg base 1 C "next_text" (sp_next C nxT) := by
  refine F.cm sc_next_text (fun vs H Q E h => by obtain ⟨_, _, _, _, _, rfl, _⟩ := h; rfl) (fun f cdv A outer s H vs Q E hr h => ?_)
  have nd := sc_next_text.nd
  obtain ⟨a, wl, qs, at_, op, rfl, ⟨⟨dx, ef⟩, xs, ew, aq⟩, k⟩ := h
  refine ⟨_, (pss_one (ps_ret (pe_ifExp (pt_cmpR op_lt (pe_fld (pv 0) rfl) (pe_callB (call_lenK K) rfl T.n_len PySem.boot_len (pa_cons (pe_fld (pv 0) rfl) pa_nil)) (nomark _)) (pe_ix (ix_tupK K) (pe_ix (ix_listK K) (pe_fld (pv 0) rfl) (pe_fld (pv 0) rfl) (fun _ _ => rfl)) pe_int (fun _ _ => rfl)) pe_str))), ?_⟩
  refine ⟨_, rfl, a, C, dx, _, _, rfl, ef, R.c, R.na, rfl, _, rfl, a, C, dx, _, _, rfl, ef, R.c, R.nw, rfl, .ref wl, xs.length, rfl, .inl ⟨xs, sql ew, rfl⟩, _, _, rfl, rfl, _, rfl, ?_⟩
  have e1 : ((xs.length : Nat) : Int) = ((qs.length : Nat) : Int) := by rw [aq.1]
  rw [e1]
  by_cases h1 : at_ < qs.length
  · rw [decide_eq_true (show (at_ : Int) < (qs.length : Int) by omega)]
    obtain ⟨v, hv, p, rfl, ep⟩ := aq.get (List.getElem?_eq_getElem h1)
    have k1 := k H (Same.refl _)
    unfold nxT at k1
    rw [List.getElem?_eq_getElem h1] at k1
    exact iteT ⟨_, rfl, a, C, dx, _, _, rfl, ef, R.c, R.nw, rfl, _, rfl, a, C, dx, _, _, rfl, ef, R.c, R.na, rfl, wl, xs, _, _, rfl, rfl, sql ew, atI_nat hv, p, _, 1, _, rfl, rfl, sqt ep, rfl, k1⟩
  · rw [decide_eq_false (show ¬ (at_ : Int) < (qs.length : Int) by omega)]
    have k1 := k H (Same.refl _)
    unfold nxT at k1
    rw [List.getElem?_eq_none (by omega)] at k1
    have k2 : Q (.str (S [])) H := k1
    rw [← S_nil] at k2
    exact iteF k2
abbrev s_goes_past : Stmt := inClass (top 88) 3
abbrev N_goes_past : List Str := ["self", "is_right"]
theorem sc_goes_past : FnScope N_goes_past ["self", "is_right"] (defScope s_goes_past) := ⟨rfl, rfl, rfl, by decide +kernel, rfl, by decide +kernel, by decide +kernel⟩
theorem cm_goes_past (F : Mf K C "goes_past" "WordReader.goes_past" s_goes_past ["self", "is_right"]) (T : Tx mg) (R : Rdr K mg C) : Cm P w K mg base 1 C "goes_past" (sp_past C) := by
  refine F.cm sc_goes_past (fun vs H Q E h => by obtain ⟨_, _, _, _, _, _, rfl, _⟩ := h; rfl) (fun f cdv A outer s H vs Q E hr h => ?_)
  have nd := sc_goes_past.nd
  obtain ⟨a, wl, qs, at_, op, q, rfl, hrd, hq, k⟩ := h
  obtain ⟨⟨dx, ef⟩, xs, ew, aq⟩ := id hrd
  refine ⟨_, (pss_cons (ps_if (pt_not (pt_val (pv 1))) (pss_one ps_never) pss_nil)
    (pss_cons (ps_fldaug (pv 0) pe_int in_add)
    (pss_one (ps_ret (pe_ix (ix_tupK K) (pe_ix (ix_listK K) (pe_fld (pv 0) rfl) (pe_op op_sub (pe_fld (pv 0) rfl) pe_int) (fun _ _ => rfl)) pe_int (fun _ _ => rfl)))))), ?_⟩
  obtain ⟨v, hv, p, rfl, ep⟩ := aq.get hq
  have ef2 : (upd H a (.ins C dx (putF "at" (.int ((at_ : Int) + 1)) [("words", .ref wl), ("at", .int at_), ("opened", .int op)]))) a = some (.ins C dx [("words", .ref wl), ("at", .int ((at_ + 1 : Nat) : Int)), ("opened", .int op)]) := upd_same
  have ka : Ka a H (upd H a (.ins C dx (putF "at" (.int ((at_ : Int) + 1)) [("words", .ref wl), ("at", .int at_), ("opened", .int op)]))) := ka_put
  refine ⟨_, rfl, _, rfl, iteF ⟨_, rfl, a, C, dx, _, _, rfl, ef, R.c, R.na, rfl, _, _, rfl, rfl, dx, _, ef, (by decide : 3 < 1000), ?_⟩⟩
  generalize (upd H a (.ins C dx (putF "at" (.int ((at_ : Int) + 1)) [("words", .ref wl), ("at", .int at_), ("opened", .int op)]))) = H2 at *
  have hrd2 := hrd.ka ka ⟨dx, ef2⟩
  obtain ⟨_, xs2, ew2, aq2⟩ := id hrd2
  have exs : xs2 = xs := by
    have := ka _ _ (ne_of ew ef (by intro z; cases z)) ew
    rw [ew2] at this
    cases this
    rfl
  subst exs
  have ep2 := (ka.gr ⟨dx, ef⟩).tup _ _ ep
  refine ⟨_, rfl, a, C, dx, _, _, rfl, ef2, R.c, R.nw, rfl, _, rfl, a, C, dx, _, _, rfl, ef2, R.c, R.na, rfl, _, 1, rfl, rfl, wl, xs2, _, _, rfl, rfl, sql ew2, ?_, p, _, 1, _, rfl, rfl, sqt ep2, rfl, k _ ka hrd2⟩
  show atI xs2 (((at_ + 1 : Nat) : Int) - 1) = some (.ref p)
  rw [show (((at_ + 1 : Nat) : Int) - 1) = (at_ : Int) by omega]
  exact atI_nat hv
theorem num_short30 {i : Int} (h : i.natAbs < 10 ^ 30) : (numW i).length ≤ 31 := by
  have h1 : -((10 ^ 30 : Nat) : Int) < i := by omega
  have h2 : i < ((10 ^ 30 : Nat) : Int) := by omega
  exact numW_len (by decide) h1 h2
def sp_a_number (C : Addr) : Sp := fun vs H Q _ => ∃ a wl qs at_ op, ∃ (lo hi i : Int), vs = [.ref a, .int lo, .int hi] ∧ RdAt C a wl qs H at_ op ∧ qs[at_]? = some (W "number", numW i) ∧ lo ≤ i ∧ i ≤ hi ∧ i.natAbs < 10 ^ 30 ∧ ∀ H', Ka a H H' → RdAt C a wl qs H' (at_ + 1) op → Q (.int i) H'
def sp_a_name (C : Addr) : Sp := fun vs H Q _ => ∃ a wl qs at_ op s, vs = [.ref a] ∧ RdAt C a wl qs H at_ op ∧ qs[at_]? = some (W "run", s) ∧ isNm s = true ∧ ∀ H', Ka a H H' → RdAt C a wl qs H' (at_ + 1) op → Q (.str (S s)) H'
def sp_one_word (C : Addr) : Sp := fun vs H Q _ => ∃ a wl qs at_ op s l, ∃ ws : List (List Nat), vs = [.ref a, .ref l] ∧ RdAt C a wl qs H at_ op ∧ H l = some (.lst (ws.map fun w => V.str (S w))) ∧ qs[at_]? = some (W "run", s) ∧ s ∈ ws ∧ ∀ H', Ka a H H' → RdAt C a wl qs H' (at_ + 1) op → Q (.str (S s)) H'
def sp_a_thing (C : Addr) : Sp := fun vs H Q _ => ∃ a wl qs at_ op d r, vs = [.ref a] ∧ RdAt C a wl qs H at_ op ∧ qs.length ≤ 100000 ∧ op ≤ 40 ∧ TI 30 (40 - op) [] (qs.drop at_) d r ∧ ∀ H' v, Ka a H H' → RdAt C a wl qs H' (qs.length - r.length) op → Rep H' v d → Q v H'
abbrev s_a_number : Stmt := inClass (top 88) 4
abbrev N_a_number : List Str := ["self", "least", "most", "found"]
theorem sc_a_number : FnScope N_a_number ["self", "least", "most"] (defScope s_a_number) := ⟨rfl, rfl, rfl, by decide +kernel, rfl, by decide +kernel, by decide +kernel⟩
theorem cm_a_number (F : Mf K C "a_number" "WordReader.a_number" s_a_number ["self", "least", "most"]) (T : Tx mg) (R : Rdr K mg C) (c_number_in : Cl P w K mg base 1 "number_in" sp_number_in) (m_goes_past : Cm P w K mg base 1 C "goes_past" (sp_past C)) : Cm P w K mg base 2 C "a_number" (sp_a_number C) := by
  refine F.cm sc_a_number (fun vs H Q E h => by obtain ⟨_, _, _, _, _, _, _, _, rfl, _⟩ := h; rfl) (fun f cdv A outer s H vs Q E hr h => ?_)
  have nd := sc_a_number.nd
  obtain ⟨a, wl, qs, at_, op, lo, hi, i, rfl, hrd, hq, h1, h2, h3, k⟩ := h
  obtain ⟨⟨dx, ef⟩, xs, ew, aq⟩ := id hrd
  refine ⟨_, (pss_cons (pset 3 nd (pe_ifExp (pt_cmpR op_lt (pe_fld (pv 0) rfl) (pe_callB (call_lenK K) rfl T.n_len PySem.boot_len (pa_cons (pe_fld (pv 0) rfl) pa_nil)) (nomark _)) (pf c_number_in hr (by omega) rfl (pa_cons (pe_ix (ix_listK K) (pe_fld (pv 0) rfl) (pe_fld (pv 0) rfl) (fun _ _ => rfl)) (pa_cons (C8.pe_gc rfl T.g_MOST_FIGURES_gentexts) pa_nil))) pe_non))
    (pss_cons (ps_expr (pmeth R m_goes_past hr (by omega) (pv 0) (pa_cons (pe_and (pe_cmpR op_notN (pv 3) pe_non (nomark _)) (pe_one (pe_chain op_le op_le (pv 1) (pv 3) (pv 2)))) pa_nil)))
    (pss_one (ps_ret (pv 3))))), ?_⟩
  obtain ⟨v, hv, p, rfl, ep⟩ := aq.get hq
  have hlt : at_ < qs.length := (List.getElem?_eq_some_iff.mp hq).1
  have hl : (numW i).length ≤ 31 := num_short30 h3
  refine ⟨_, rfl, a, C, dx, _, _, rfl, ef, R.c, R.na, rfl, _, rfl, a, C, dx, _, _, rfl, ef, R.c, R.nw, rfl, .ref wl, xs.length, rfl, .inl ⟨xs, sql ew, rfl⟩, _, _, rfl, rfl, _, rfl, ?_⟩
  have e1 : ((xs.length : Nat) : Int) = ((qs.length : Nat) : Int) := by rw [aq.1]
  rw [e1, decide_eq_true (show (at_ : Int) < (qs.length : Int) by omega)]
  refine iteT ⟨_, rfl, a, C, dx, _, _, rfl, ef, R.c, R.nw, rfl, _, rfl, a, C, dx, _, _, rfl, ef, R.c, R.na, rfl, wl, xs, _, _, rfl, rfl, sql ew, atI_nat hv, _, W "number", numW i, 30, rfl, ⟨p, rfl, ep⟩, by omega, by decide, by decide, .inr ⟨i, rfl, rfl, h3, fun H1 s1 => ?_⟩⟩
  have hrd1 := hrd.same s1
  refine ⟨_, rfl, a, dx, _, rfl, s1 _ _ ef, rfl, _, rfl, rfl, _, rfl, iteT ⟨_, rfl, _, rfl, lo, i, rfl, rfl, _, rfl, ?_⟩⟩
  rw [decide_eq_true h1]
  refine iteT ⟨_, rfl, i, hi, rfl, rfl, ?_⟩
  exact ⟨a, wl, qs, at_, op, _, by show [V.ref a, V.bl (decide (i ≤ hi))] = _; rw [decide_eq_true h2], hrd1, hq, fun H2 k2 r2 => ⟨_, rfl, k _ ((Ka.of s1).trans k2) r2⟩⟩
abbrev s_a_name : Stmt := inClass (top 88) 5
abbrev N_a_name : List Str := ["self"]
theorem sc_a_name : FnScope N_a_name ["self"] (defScope s_a_name) := ⟨rfl, rfl, rfl, by decide +kernel, rfl, by decide +kernel, by decide +kernel⟩
theorem cm_a_name (F : Mf K C "a_name" "WordReader.a_name" s_a_name ["self"]) (T : Tx mg) (R : Rdr K mg C) (c_is_name : Cl P w K mg base 1 "is_name" (spB isName)) (m_next_sort : Cm P w K mg base 1 C "next_sort" (sp_next C nxS)) (m_next_text : Cm P w K mg base 1 C "next_text" (sp_next C nxT)) (m_goes_past : Cm P w K mg base 1 C "goes_past" (sp_past C)) : Cm P w K mg base 2 C "a_name" (sp_a_name C) := by
  refine F.cm sc_a_name (fun vs H Q E h => by obtain ⟨_, _, _, _, _, _, rfl, _⟩ := h; rfl) (fun f cdv A outer s H vs Q E hr h => ?_)
  have nd := sc_a_name.nd
  obtain ⟨a, wl, qs, at_, op, z, rfl, hrd, hq, hz, k⟩ := h
  obtain ⟨dx, ef⟩ := id hrd.f
  refine ⟨_, (pss_one (ps_ret (pmeth R m_goes_past hr (by omega) (pv 0) (pa_cons (pe_and (pe_cmpR op_eq (pmeth0 R m_next_sort hr (by omega) (pv 0)) (C8.pe_gc rfl T.g_RUN) (nomark _)) (pe_one (pf c_is_name hr (by omega) rfl (pa_cons (pmeth0 R m_next_text hr (by omega) (pv 0)) pa_nil)))) pa_nil)))), ?_⟩
  have e1 : nxS qs at_ = W "run" := by unfold nxS; rw [hq]; rfl
  have e2 : nxT qs at_ = z := by unfold nxT; rw [hq]; rfl
  have hzl := nm_len hz
  refine ⟨_, rfl, a, dx, _, rfl, ef, rfl, _, rfl, a, dx, _, rfl, ef, rfl, a, wl, qs, at_, op, rfl, hrd, fun H1 s1 => ?_⟩
  rw [e1]
  refine ⟨rfl, _, rfl, ?_⟩
  rw [dstr (W "run") "run", decide_eq_true rfl]
  have hrd1 := hrd.same s1
  refine iteT ⟨_, rfl, a, dx, _, rfl, s1 _ _ ef, rfl, a, wl, qs, at_, op, rfl, hrd1, fun H2 s2 => ?_⟩
  rw [e2]
  refine ⟨_, .str z, rfl, .str z (by omega), fun H3 s3 => ?_⟩
  rw [show isName (.str z) = true from hz]
  exact ⟨a, wl, qs, at_, op, _, rfl, (hrd1.same s2).same s3, hq, fun H4 k4 r4 => k _ ((Ka.of ((s1.trans s2).trans s3)).trans k4) r4⟩
abbrev s_one_word : Stmt := inClass (top 88) 6
abbrev N_one_word : List Str := ["self", "words"]
theorem sc_one_word : FnScope N_one_word ["self", "words"] (defScope s_one_word) := ⟨rfl, rfl, rfl, by decide +kernel, rfl, by decide +kernel, by decide +kernel⟩
theorem cm_one_word (F : Mf K C "one_word" "WordReader.one_word" s_one_word ["self", "words"]) (T : Tx mg) (R : Rdr K mg C) (m_next_sort : Cm P w K mg base 1 C "next_sort" (sp_next C nxS)) (m_next_text : Cm P w K mg base 1 C "next_text" (sp_next C nxT)) (m_goes_past : Cm P w K mg base 1 C "goes_past" (sp_past C)) : Cm P w K mg base 2 C "one_word" (sp_one_word C) := by
  refine F.cm sc_one_word (fun vs H Q E h => by obtain ⟨_, _, _, _, _, _, _, _, rfl, _⟩ := h; rfl) (fun f cdv A outer s H vs Q E hr h => ?_)
  have nd := sc_one_word.nd
  obtain ⟨a, wl, qs, at_, op, z, l, ws, rfl, hrd, el, hq, hz, k⟩ := h
  obtain ⟨dx, ef⟩ := id hrd.f
  refine ⟨_, (pss_one (ps_ret (pmeth R m_goes_past hr (by omega) (pv 0) (pa_cons (pe_and (pe_cmpR op_eq (pmeth0 R m_next_sort hr (by omega) (pv 0)) (C8.pe_gc rfl T.g_RUN) (nomark _)) (pe_one (pe_cmpR (op_inK K) (pmeth0 R m_next_text hr (by omega) (pv 0)) (pv 1) rfl))) pa_nil)))), ?_⟩
  have e1 : nxS qs at_ = W "run" := by unfold nxS; rw [hq]; rfl
  have e2 : nxT qs at_ = z := by unfold nxT; rw [hq]; rfl
  refine ⟨_, rfl, a, dx, _, rfl, ef, rfl, _, rfl, a, dx, _, rfl, ef, rfl, a, wl, qs, at_, op, rfl, hrd, fun H1 s1 => ?_⟩
  rw [e1]
  refine ⟨rfl, _, rfl, ?_⟩
  rw [dstr (W "run") "run", decide_eq_true rfl]
  have hrd1 := hrd.same s1
  refine iteT ⟨_, rfl, a, dx, _, rfl, s1 _ _ ef, rfl, a, wl, qs, at_, op, rfl, hrd1, fun H2 s2 => ?_⟩
  rw [e2]
  refine ⟨_, rfl, l, _, rfl, .inl (sql ((s1.trans s2) _ _ el)), rfl, by simp [List.all_map]; intros; rfl, ?_⟩
  rw [if_neg Bool.false_ne_true, inV_str, decide_eq_true hz]
  exact ⟨a, wl, qs, at_, op, _, rfl, hrd1.same s2, hq, fun H4 k4 r4 => k _ ((Ka.of (s1.trans s2)).trans k4) r4⟩
abbrev s_a_thing : Stmt := inClass (top 88) 7
abbrev N_a_thing : List Str := ["self", "found"]
theorem sc_a_thing : FnScope N_a_thing ["self"] (defScope s_a_thing) := ⟨rfl, rfl, rfl, by decide +kernel, rfl, by decide +kernel, by decide +kernel⟩
theorem cm_a_thing (F : Mf K C "a_thing" "WordReader.a_thing" s_a_thing ["self"]) (T : Tx mg) (R : Rdr K mg C) (c_thing_in : Cl P w K mg base 2 "thing_in" sp_thing_in) : Cm P w K mg base 3 C "a_thing" (sp_a_thing C) := by
  refine F.cm sc_a_thing (fun vs H Q E h => by obtain ⟨_, _, _, _, _, _, _, rfl, _⟩ := h; rfl) (fun f cdv A outer s H vs Q E hr h => ?_)
  have nd := sc_a_thing.nd
  obtain ⟨a, wl, qs, at_, op, d, r, rfl, hrd, hql, hop, hti, k⟩ := h
  obtain ⟨dx, ef⟩ := id hrd.f
  refine ⟨_, (pss_cons (ps_asg (pf c_thing_in hr (by omega) rfl (pa_cons (pe_fld (pv 0) rfl) (pa_cons (pe_fld (pv 0) rfl) (pa_cons (C8.pe_gc rfl T.g_MOST_FIGURES_gentexts) (pa_cons (pe_fld (pv 0) rfl) pa_nil))))) (pg_tupK (n := 2) K rfl (pgs_cons (pgn 1 nd) (pgs_cons (pg_fld (pv 0)) pgs_nil))))
    (pss_one
        (ps_ret (pv 1)))), ?_⟩
  refine ⟨_, rfl, a, C, dx, _, _, rfl, ef, R.c, R.nw, rfl, _, rfl, a, C, dx, _, _, rfl, ef, R.c, R.na, rfl, _, rfl, a, C, dx, _, _, rfl, ef, R.c, R.no, rfl, wl, qs, at_, 30, op, d, r, rfl, hrd.w, hql, by decide, by decide, hop, hti, fun H1 p v s1 ep hv => ?_⟩
  have ef1 := s1 _ _ ef
  refine ⟨p, _, rfl, sqt ep, rfl, _, _, rfl, _, [], rfl, _, rfl, a, C, dx, _, rfl, ef1, R.c, R.na, (by decide : 3 < 1000), rfl, ?_⟩
  have ef2 : (upd H1 a (.ins C dx (putF "at" (.int ((qs.length - r.length : Nat) : Int)) [("words", .ref wl), ("at", .int at_), ("opened", .int op)]))) a = some (.ins C dx [("words", .ref wl), ("at", .int ((qs.length - r.length : Nat) : Int)), ("opened", .int op)]) := upd_same
  have ka : Ka a H1 (upd H1 a (.ins C dx (putF "at" (.int ((qs.length - r.length : Nat) : Int)) [("words", .ref wl), ("at", .int at_), ("opened", .int op)]))) := ka_put
  have g : Gr H1 (upd H1 a (.ins C dx (putF "at" (.int ((qs.length - r.length : Nat) : Int)) [("words", .ref wl), ("at", .int at_), ("opened", .int op)]))) := ka.gr ⟨dx, ef1⟩
  exact ⟨_, rfl, k _ v ((Ka.of s1).trans ka) ((hrd.same s1).ka ka ⟨dx, ef2⟩) (hv.gr g)⟩
end
end K6
set_option maxHeartbeats 4000001
namespace K6
open L2 PySem PySem.Spec PyProof.Rows
def PosA (qs : List Tok2) (a : Nat) (r : List Tok2) : Prop := qs.drop a = r ∧ a ≤ qs.length
theorem PosA.step {qs r : List Tok2} {a : Nat} {q : Tok2} (h : PosA qs a (q :: r)) : qs[a]? = some q ∧ PosA qs (a + 1) r := by
  obtain ⟨h1, h2⟩ := h
  have hlt : a < qs.length := by
    cases Nat.lt_or_ge a qs.length with
    | inl h => exact h
    | inr h =>
      rw [List.drop_eq_nil_of_le h] at h1
      cases h1
  rw [List.drop_eq_getElem_cons hlt] at h1
  obtain ⟨e1, e2⟩ := List.cons.inj h1
  exact ⟨by rw [List.getElem?_eq_getElem hlt, e1], e2, hlt⟩
theorem PosA.app {qs l r : List Tok2} {a : Nat} (h : PosA qs a (l ++ r)) : PosA qs (qs.length - r.length) r := by
  obtain ⟨h1, h2⟩ := h
  have h3 := congrArg List.length h1
  rw [List.length_drop, List.length_append] at h3
  refine ⟨?_, by omega⟩
  have : qs.drop (a + l.length) = r := by
    rw [← List.drop_drop, h1, List.drop_left]
  rw [← this, List.length_drop]
  congr 1
  omega
theorem PosA.nxS {qs r : List Tok2} {a : Nat} {q : Tok2} (h : PosA qs a (q :: r)) : nxS qs a = q.1 := by
  unfold K6.nxS
  rw [h.step.1]
  rfl
theorem PosA.nxT {qs r : List Tok2} {a : Nat} {q : Tok2} (h : PosA qs a (q :: r)) : nxT qs a = q.2 := by
  unfold K6.nxT
  rw [h.step.1]
  rfl
theorem PosA.nil {qs : List Tok2} {a : Nat} (h : PosA qs a []) : qs[a]? = none := by
  have := h.2
  have h3 := congrArg List.length h.1
  rw [List.length_drop, List.length_nil] at h3
  exact List.getElem?_eq_none (by omega)
theorem Ka.new {a p : Addr} {H H' : Hp} {o : HO} (k : Ka a H H') (h : H' p = none) : Ka a H (upd H' p o) := fun b u n e => up_ne (k b u n e) h
theorem Ka.put {a p : Addr} {H H' : Hp} {o : HO} (k : Ka a H H') (h : H p = none) : Ka a H (upd H' p o) := fun b u n e => by
  rw [upd_ne (ne_of_none e h)]
  exact k b u n e
def sp_inner (C : Addr) (n : Nat) : Sp := fun vs H Q _ => ∃ a wl qs at_ op d rest, vs = [.ref a] ∧ RdAt C a wl qs H at_ op ∧ qs.length ≤ 100000 ∧ PosA qs at_ (ginT (gtk n) d ++ rest) ∧ fok n d = true ∧ op + n ≤ 12 ∧
  ∀ H' v at', Ka a H H' → PosA qs at' rest → RdAt C a wl qs H' at' op → Rep H' v d → Q v H'
def sp_gr (C : Addr) (n : Nat) : Sp := fun vs H Q _ => ∃ a wl qs at_ op d rest, vs = [.ref a] ∧ RdAt C a wl qs H at_ op ∧ qs.length ≤ 100000 ∧ PosA qs at_ (gtk n d ++ rest) ∧ EndR rest ∧ fok n d = true ∧ op + n ≤ 13 ∧
  ∀ H' v at', Ka a H H' → PosA qs at' rest → RdAt C a wl qs H' at' op → Rep H' v d → Q v H'
def sp_things (C : Addr) : Sp := fun vs H Q _ => ∃ a wl qs at_ op ts rest, vs = [.ref a] ∧ RdAt C a wl qs H at_ op ∧ qs.length ≤ 100000 ∧ PosA qs at_ ((ts.map (ttk 6)).flatten ++ rest) ∧ EndR rest ∧ 1 ≤ ts.length ∧ ts.length ≤ 9 ∧ (∀ t ∈ ts, own t = true) ∧ op ≤ 13 ∧
  ∀ H' v at', Ka a H H' → PosA qs at' rest → RdAt C a wl qs H' at' op → Rep H' v (.tup ts) → Q v H'
theorem rdf_put {C a wl : Addr} {H : Hp} {at_ op : Nat} {o : HO} {p : Addr} (h : RdF C a wl H at_ op) (hp : p ≠ a) : RdF C a wl (upd H p o) at_ op := by
  obtain ⟨dx, h⟩ := h
  exact ⟨dx, by rw [upd_ne (Ne.symm hp)]; exact h⟩
theorem RdAt.put {C a wl : Addr} {qs : List Tok2} {H : Hp} {i j : Nat} {p : Addr} {xs ys : List V} (h : RdAt C a wl qs H i j) (e : H p = some (.lst xs)) (n1 : p ≠ a) (n2 : p ≠ wl) : RdAt C a wl qs (upd H p (.lst ys)) i j := by
  obtain ⟨zs, ew, aq⟩ := h.w
  exact ⟨rdf_put h.f n1, zs, by rw [upd_ne (Ne.symm n2)]; exact ew, aq.mono fun v q r => r.gr (gr_put e)⟩
section
variable {P : Program} {w : World} {K : PySem.W.Frag} {mg : Str → Option Value} {base : Heap} {C : Addr}
abbrev s_inner : Stmt := inClass (top 88) 8
abbrev N_inner : List Str := ["self", "found"]
theorem sc_inner : FnScope N_inner ["self"] (defScope s_inner) := ⟨rfl, rfl, rfl, by decide +kernel, rfl, by decide +kernel, by decide +kernel⟩
theorem cm_inner (F : Mf K C "inner" "WordReader.inner" s_inner ["self"]) (T : Tx mg) (R : Rdr K mg C) (m_next_text : Cm P w K mg base 1 C "next_text" (sp_next C nxT)) (m_goes_past : Cm P w K mg base 1 C "goes_past" (sp_past C)) {n k : Nat} (hk1 : 1 ≤ k) (m_generator : Cm P w K mg base k C "generator" (sp_gr C n)) :
    Cm P w K mg base (k + 1) C "inner" (sp_inner C n) := by
  refine F.cm sc_inner (fun vs H Q E h => by obtain ⟨_, _, _, _, _, _, _, rfl, _⟩ := h; rfl) (fun f cdv A outer s H vs Q E hr h => ?_)
  have nd := sc_inner.nd
  obtain ⟨a, wl, qs, at_, op, d, rest, rfl, hrd, hql, hpos, hfk, hop, k⟩ := h
  obtain ⟨dx, ef⟩ := id hrd.f
  refine ⟨_, (pss_cons (ps_expr (pmeth R m_goes_past hr (by omega) (pv 0) (pa_cons (pe_and (pe_cmpR op_eq (pmeth0 R m_next_text hr (by omega) (pv 0)) pe_str (nomark _)) (pe_one (pe_cmpR op_lt (pe_fld (pv 0) rfl) (C8.pe_gc rfl T.g_MOST_OPENED) (nomark _)))) pa_nil)))
    (pss_cons (ps_fldaug (pv 0) pe_int in_add)
    (pss_cons (pset 1 nd (pmeth0 R m_generator hr (by omega) (pv 0)))
    (pss_cons (ps_expr (pmeth R m_goes_past hr (by omega) (pv 0) (pa_cons (pe_cmpR op_eq (pmeth0 R m_next_text hr (by omega) (pv 0)) pe_str (nomark _)) pa_nil)))
    (pss_cons (ps_fldaug (pv 0) pe_int in_sub)
    (pss_one (ps_ret (pv 1)))))))), ?_⟩
  have hpos1 : PosA qs at_ (sgT 40 :: (gtk n d ++ (sgT 41 :: rest))) := by
    have e : ginT (gtk n) d ++ rest = sgT 40 :: (gtk n d ++ (sgT 41 :: rest)) := by
      show (sgT 40 :: (gtk n d ++ [sgT 41])) ++ rest = _
      rw [List.cons_append, List.append_assoc]
      rfl
    rw [← e]
    exact hpos
  obtain ⟨hq, hpos2⟩ := hpos1.step
  refine ⟨_, rfl, a, dx, _, rfl, ef, rfl, _, rfl, a, dx, _, rfl, ef, rfl, a, wl, qs, at_, op, rfl, hrd, fun H1 s1 => ?_⟩
  rw [hpos1.nxT, show (sgT 40).2 = [40] from rfl]
  have hrd1 := hrd.same s1
  have ef1 := s1 _ _ ef
  refine ⟨rfl, _, rfl, ?_⟩
  rw [dchar 40 "(" 40 (by decide +kernel), decide_eq_true rfl]
  refine iteT ⟨_, rfl, a, C, dx, _, _, rfl, ef1, R.c, R.no, rfl, _, _, rfl, rfl, a, wl, qs, at_, op, _, by show [V.ref a, V.bl (decide ((op : Int) < 40))] = _; rw [decide_eq_true (show (op : Int) < 40 by omega)], hrd1, hq, fun H2 k2 hrd2 => ?_⟩
  obtain ⟨dx2, ef2⟩ := id hrd2.f
  refine ⟨_, rfl, a, C, dx2, _, _, rfl, ef2, R.c, R.no, rfl, _, _, rfl, rfl, dx2, _, ef2, (by decide : 3 < 1000), ?_⟩
  have ef3 : (upd H2 a (.ins C dx2 (putF "opened" (.int ((op : Int) + 1)) [("words", .ref wl), ("at", .int ((at_ + 1 : Nat) : Int)), ("opened", .int op)]))) a = some (.ins C dx2 [("words", .ref wl), ("at", .int ((at_ + 1 : Nat) : Int)), ("opened", .int ((op + 1 : Nat) : Int))]) := upd_same
  have ka3 : Ka a H2 (upd H2 a (.ins C dx2 (putF "opened" (.int ((op : Int) + 1)) [("words", .ref wl), ("at", .int ((at_ + 1 : Nat) : Int)), ("opened", .int op)]))) := ka_put
  generalize (upd H2 a (.ins C dx2 (putF "opened" (.int ((op : Int) + 1)) [("words", .ref wl), ("at", .int ((at_ + 1 : Nat) : Int)), ("opened", .int op)]))) = H3 at *
  have hrd3 := hrd2.ka ka3 ⟨dx2, ef3⟩
  refine ⟨_, rfl, a, dx2, _, rfl, ef3, rfl, a, wl, qs, at_ + 1, op + 1, d, sgT 41 :: rest, rfl, hrd3, hql, hpos2, .inr ⟨rest, rfl⟩, hfk, by omega, fun H4 v at4 k4 hpos4 hrd4 hv4 => ?_⟩
  obtain ⟨hq4, hpos5⟩ := hpos4.step
  obtain ⟨dx4, ef4⟩ := id hrd4.f
  refine ⟨_, rfl, a, dx4, _, rfl, ef4, rfl, _, rfl, a, dx4, _, rfl, ef4, rfl, a, wl, qs, at4, op + 1, rfl, hrd4, fun H5 s5 => ?_⟩
  rw [hpos4.nxT, show (sgT 41).2 = [41] from rfl]
  have hrd5 := hrd4.same s5
  refine ⟨rfl, a, wl, qs, at4, op + 1, _, by show [V.ref a, V.bl (decide (V.str (S [41]) = V.str (Str.ofString ")")))] = _; rw [dchar 41 ")" 41 (by decide +kernel), decide_eq_true rfl], hrd5, hq4, fun H6 k6 hrd6 => ?_⟩
  obtain ⟨dx6, ef6⟩ := id hrd6.f
  refine ⟨_, rfl, a, C, dx6, _, _, rfl, ef6, R.c, R.no, rfl, _, _, rfl, rfl, dx6, _, ef6, (by decide : 3 < 1000), ?_⟩
  have eop : ((op + 1 : Nat) : Int) - 1 = (op : Int) := by omega
  rw [eop]
  have ef7 : (upd H6 a (.ins C dx6 (putF "opened" (.int (op : Int)) [("words", .ref wl), ("at", .int ((at4 + 1 : Nat) : Int)), ("opened", .int ((op + 1 : Nat) : Int))]))) a = some (.ins C dx6 [("words", .ref wl), ("at", .int ((at4 + 1 : Nat) : Int)), ("opened", .int (op : Int))]) := upd_same
  have ka7 : Ka a H6 (upd H6 a (.ins C dx6 (putF "opened" (.int (op : Int)) [("words", .ref wl), ("at", .int ((at4 + 1 : Nat) : Int)), ("opened", .int ((op + 1 : Nat) : Int))]))) := ka_put
  have g46 : Gr H4 H6 := ((Ka.of s5).trans k6).gr hrd4.f
  exact ⟨_, rfl, k _ v (at4 + 1) ((((Ka.of s1).trans k2).trans (ka3.trans k4)).trans (((Ka.of s5).trans k6).trans ka7)) hpos5 (hrd6.ka ka7 ⟨dx6, ef7⟩) ((hv4.gr g46).gr (ka7.gr hrd6.f))⟩
abbrev s_things : Stmt := inClass (top 88) 9
abbrev N_things : List Str := ["self", "found"]
theorem sc_things : FnScope N_things ["self"] (defScope s_things) := ⟨rfl, rfl, rfl, by decide +kernel, rfl, by decide +kernel, by decide +kernel⟩
theorem cm_things (F : Mf K C "things" "WordReader.things" s_things ["self"]) (T : Tx mg) (R : Rdr K mg C) (m_next_sort : Cm P w K mg base 1 C "next_sort" (sp_next C nxS)) (m_next_text : Cm P w K mg base 1 C "next_text" (sp_next C nxT)) (m_a_thing : Cm P w K mg base 3 C "a_thing" (sp_a_thing C)) : Cm P w K mg base 4 C "things" (sp_things C) := by
  refine F.cm sc_things (fun vs H Q E h => by obtain ⟨_, _, _, _, _, _, _, rfl, _⟩ := h; rfl) (fun f cdv A outer s H vs Q E hr h => ?_)
  have nd := sc_things.nd
  obtain ⟨a, wl, qs, at_, op, ts, rest, rfl, hrd, hql, hpos, hend, l1, l9, hown, hop, k⟩ := h
  obtain ⟨dx, ef⟩ := id hrd.f
  refine ⟨_, (pss_cons (pset 1 nd (pe_lst (pa_cons (pmeth0 R m_a_thing hr (by omega) (pv 0)) pa_nil)))
    (pss_cons (ps_while (passes_of rfl) (PW.pt (pw_or (pt_cmpR (op_inK K) (pmeth0 R m_next_sort hr (by omega) (pv 0)) (pe_tup (pa_cons (C8.pe_gc rfl T.g_NUMBER) (pa_cons (C8.pe_gc rfl T.g_NAME) pa_nil))) rfl) (pw_or1 (pt_cmpR op_eq (pmeth0 R m_next_text hr (by omega) (pv 0)) pe_str (nomark _))))) (pss_cons (ps_if (pt_cmpR op_eq (pe_callB (call_lenK K) rfl T.n_len PySem.boot_len (pa_cons (pv 1) pa_nil)) (C8.pe_gc rfl T.g_MOST_SOME) (nomark _)) (pss_one ps_never) pss_nil)
      (pss_one (ps_expr (pe_bm PySem.F.plainAttrs_list PySem.F.slot_list_append PySem.F.type_list_append mt_append (pv 1) (pa_cons (pmeth0 R m_a_thing hr (by omega) (pv 0)) pa_nil))))))
    (pss_one (ps_ret (pe_callTy (call_tupK K) rfl T.n_tuple bt_tuple (pa_cons (pv 1) pa_nil)))))), ?_⟩
  have one : ∀ (t : D) (ts' : List D) (at1 : Nat), own t = true → PosA qs at1 (((t :: ts').map (ttk 6)).flatten ++ rest) → TI 30 (40 - op) [] (qs.drop at1) t ((ts'.map (ttk 6)).flatten ++ rest) ∧ PosA qs (qs.length - ((ts'.map (ttk 6)).flatten ++ rest).length) ((ts'.map (ttk 6)).flatten ++ rest) := fun t ts' at1 ho hp => by
    rw [List.map_cons, List.flatten_cons, List.append_assoc] at hp
    refine ⟨?_, hp.app⟩
    rw [hp.1]
    exact (ti_thing (by decide) (by decide) 6 t (own_words ho).1).1 _ (by omega)
  obtain ⟨t0, ts0, rfl⟩ : ∃ t r, ts = t :: r := by
    cases ts with
    | nil => simp at l1
    | cons t r => exact ⟨t, r, rfl⟩
  obtain ⟨hti, hp1⟩ := one t0 ts0 at_ (hown _ List.mem_cons_self) hpos
  refine ⟨_, rfl, a, dx, _, rfl, ef, rfl, a, wl, qs, at_, op, t0, _, rfl, hrd, hql, by omega, hti, fun H1 v k1 hrd1 hv => ⟨lsz, fun F0 hF => ?_⟩⟩
  have nF : F0 ≠ a := fun z => by
    obtain ⟨dx1, e1⟩ := hrd1.f
    rw [z, e1] at hF
    cases hF
  have s1 : Same H1 (upd H1 F0 (.lst [v])) := (Same.refl _).new hF
  have nH : H F0 = none := by
    cases e : H F0 with
    | none => rfl
    | some u =>
      have := k1 _ _ nF e
      rw [hF] at this
      cases this
  have nW : F0 ≠ wl := fun z => by
    obtain ⟨_, e, _⟩ := hrd.w
    rw [z, e] at nH
    cases nH
  refine ⟨fun m σ' H' => ∃ (at1 : Nat) (xs : List V) (ds ts' : List D), σ' = [some (.ref a), some (.ref F0)] ∧ Ka a H H' ∧ RdAt C a wl qs H' at1 op ∧ H' F0 = some (.lst xs) ∧ Reps H' xs ds ∧ 1 ≤ ds.length ∧ ds ++ ts' = t0 :: ts0 ∧ m = ts'.length ∧ PosA qs at1 ((ts'.map (ttk 6)).flatten ++ rest),
    ⟨_, _, [v], [t0], ts0, rfl, k1.new hF, hrd1.same s1, upd_same, Reps.cons (hv.same s1) Reps.nil, Nat.le_refl _, rfl, rfl, hp1⟩, ?_⟩
  rintro m σ' H' ⟨at1, xs, ds, ts', rfl, k2, hrd2, eF, hxs, hd1, eds, rfl, hp⟩
  obtain ⟨dx2, ef2⟩ := id hrd2.f
  have hlen : ds.length + ts'.length ≤ 9 := by
    have := congrArg List.length eds
    rw [List.length_append] at this
    omega
  refine ⟨_, rfl, a, dx2, _, rfl, ef2, rfl, a, wl, qs, at1, op, rfl, hrd2, fun H3 s3 => ?_⟩
  refine ⟨lsz, fun t ht => ⟨t, _, rfl, .inr (sqt upd_same), rfl, rfl, _, rfl, ?_⟩⟩
  have s4 : Same H' (upd H3 t (.tup [.str "number", .str "name"])) := s3.new ht
  have e7 : inV (.str (S (nxS qs at1))) [V.str "number", V.str "name"] = decide (nxS qs at1 ∈ [W "number", W "name"]) := inV_W _ ["number", "name"]
  rw [if_neg Bool.false_ne_true, e7]
  generalize (upd H3 t (.tup [.str "number", .str "name"])) = H4 at *
  have hrd4 := hrd2.same s4
  have k4 := k2.trans (.of s4)
  have eF4 := s4 _ _ eF
  have hxs4 := hxs.same s4
  obtain ⟨dx4, ef4⟩ := id hrd4.f
  cases ts' with
  | nil =>
    have hp : PosA qs at1 rest := hp
    have hno : nxS qs at1 ∉ [W "number", W "name"] ∧ nxT qs at1 ≠ [91] := by
      rcases hend with rfl | ⟨r', rfl⟩
      · unfold nxS nxT
        rw [hp.nil]
        exact ⟨by decide +kernel, by decide⟩
      · rw [hp.nxS, hp.nxT]
        exact ⟨by show W "sign" ∉ _; decide +kernel, by show [41] ≠ [91]; decide⟩
    rw [decide_eq_false hno.1]
    refine iteF ⟨_, rfl, a, dx4, _, rfl, ef4, rfl, a, wl, qs, at1, op, rfl, hrd4, fun H5 s5 => ?_⟩
    refine ⟨rfl, _, rfl, ?_⟩
    rw [dstr _ "[", decide_eq_false (show ¬ nxT qs at1 = W "[" from fun z => hno.2 (z.trans (by decide +kernel)))]
    have eF5 := s5 _ _ eF4
    refine iteF ⟨_, rfl, F0, xs, rfl, .inl ⟨sql eF5, fun l hl => ?_⟩⟩
    have s6 : Same H4 (upd H5 l (.tup xs)) := s5.new hl
    have eds : ds = t0 :: ts0 := by rw [← eds, List.append_nil]
    have hx6 := hxs4.same s6
    refine k _ _ at1 (k4.trans (.of s6)) hp (hrd4.same s6) (.tup upd_same ?_ ?_)
    · rw [← eds]
      exact hx6.1
    · rw [← eds]
      exact hx6.2
  | cons t1 ts1 =>
    have ho := hown t1 (by rw [← eds]; simp)
    obtain ⟨hti1, hp2⟩ := one t1 ts1 at1 ho hp
    obtain ⟨q, r', eq, hqk⟩ := ttk_head (own_words ho).1
    have hpq : PosA qs at1 (q :: (r' ++ ((ts1.map (ttk 6)).flatten ++ rest))) := by
      rw [List.map_cons, List.flatten_cons, eq, List.append_assoc] at hp
      exact hp
    have body : ∀ H5, Same H4 H5 → ¬ V.int (xs.length : Int) = V.int 9 := fun _ _ z => by
      have := V.int.inj z
      have hl : xs.length = ds.length := hxs.1
      rw [List.length_cons] at hlen
      omega
    by_cases hsrt : nxS qs at1 ∈ [W "number", W "name"]
    · rw [decide_eq_true hsrt]
      refine iteT ⟨_, fun _ _ h => h, ?_⟩
      refine ⟨_, rfl, .ref F0, xs.length, rfl, .inl ⟨xs, sql eF4, rfl⟩, rfl, _, rfl, ?_⟩
      rw [decide_eq_false (body H4 (Same.refl _))]
      refine iteF ⟨_, rfl, .inl ⟨rfl, _, sql eF4⟩, _, rfl, a, dx4, _, rfl, ef4, rfl, a, wl, qs, at1, op, t1, _, rfl, hrd4, hql, by omega, hti1, fun H6 v6 k6 hrd6 hv6 => ?_⟩
      have eF6 := k6 _ _ nF eF4
      have g6 := k6.gr hrd4.f
      refine ⟨F0, xs, v6, rfl, rfl, eF6, sizes (by have hl : xs.length = ds.length := hxs.1; omega), ts1.length, by rw [List.length_cons]; omega, _, xs ++ [v6], ds ++ [t1], ts1, rfl, (k4.trans k6).put nH, ?_, upd_same, ?_, by rw [List.length_append]; simp, by rw [List.append_assoc]; exact eds, rfl, hp2⟩
      · exact hrd6.put eF6 nF nW
      · have g7 : Gr H6 (upd H6 F0 (.lst (xs ++ [v6]))) := gr_put eF6
        exact (hxs4.gr (g6.trans g7)).app (Reps.cons (hv6.gr g7) Reps.nil)
    · rw [decide_eq_false hsrt]
      have hq91 : q = sgT 91 := by
        rcases hqk with h | h | h
        · exact absurd (by rw [hpq.nxS, h]; exact List.mem_cons_self) hsrt
        · exact absurd (by rw [hpq.nxS, h]; exact List.mem_cons_of_mem _ List.mem_cons_self) hsrt
        · exact h
      refine iteF ⟨_, rfl, a, dx4, _, rfl, ef4, rfl, a, wl, qs, at1, op, rfl, hrd4, fun H5 s5 => ?_⟩
      refine ⟨rfl, _, rfl, ?_⟩
      rw [dstr _ "[", decide_eq_true (show nxT qs at1 = W "[" by rw [hpq.nxT, hq91]; decide +kernel)]
      have eF5 := s5 _ _ eF4
      have hrd5 := hrd4.same s5
      have hxs5 := hxs4.same s5
      have k5 := k4.trans (.of s5)
      obtain ⟨dx5, ef5⟩ := id hrd5.f
      refine iteT ⟨_, fun _ _ h => h, ?_⟩
      refine ⟨_, rfl, .ref F0, xs.length, rfl, .inl ⟨xs, sql eF5, rfl⟩, rfl, _, rfl, ?_⟩
      rw [decide_eq_false (body H4 (Same.refl _))]
      refine iteF ⟨_, rfl, .inl ⟨rfl, _, sql eF5⟩, _, rfl, a, dx5, _, rfl, ef5, rfl, a, wl, qs, at1, op, t1, _, rfl, hrd5, hql, by omega, hti1, fun H6 v6 k6 hrd6 hv6 => ?_⟩
      have eF6 := k6 _ _ nF eF5
      have g6 := k6.gr hrd5.f
      refine ⟨F0, xs, v6, rfl, rfl, eF6, sizes (by have hl : xs.length = ds.length := hxs.1; omega), ts1.length, by rw [List.length_cons]; omega, _, xs ++ [v6], ds ++ [t1], ts1, rfl, (k5.trans k6).put nH, ?_, upd_same, ?_, by rw [List.length_append]; simp, by rw [List.append_assoc]; exact eds, rfl, hp2⟩
      · exact hrd6.put eF6 nF nW
      · have g7 : Gr H6 (upd H6 F0 (.lst (xs ++ [v6]))) := gr_put eF6
        exact (hxs5.gr (g6.trans g7)).app (Reps.cons (hv6.gr g7) Reps.nil)
end
end K6
set_option maxHeartbeats 4000001
namespace K6
open L2 PySem PySem.Spec PyProof.Rows
def sp_inners (C : Addr) (n : Nat) : Sp := fun vs H Q _ => ∃ a wl qs at_ op ts rest, vs = [.ref a] ∧ RdAt C a wl qs H at_ op ∧ qs.length ≤ 100000 ∧ PosA qs at_ ((ts.map (ginT (gtk n))).flatten ++ rest) ∧ EndR rest ∧ ts.length ≤ 6 ∧ (∀ t ∈ ts, fok n t = true) ∧ op + n ≤ 12 ∧
  ∀ H' v at', Ka a H H' → PosA qs at' rest → RdAt C a wl qs H' at' op → Rep H' v (.tup ts) → Q v H'
def pairD (p : Int × D) : D := .tup [.int p.1, p.2]
def sp_pairs (C : Addr) (n : Nat) : Sp := fun vs H Q _ => ∃ a wl qs at_ op, ∃ (ps : List (Int × D)) (rest : List Tok2), vs = [.ref a] ∧ RdAt C a wl qs H at_ op ∧ qs.length ≤ 100000 ∧ PosA qs at_ ((ps.map fun p => numT p.1 :: ginT (gtk n) p.2).flatten ++ rest) ∧ EndR rest ∧ 1 ≤ ps.length ∧ ps.length ≤ 6 ∧ (∀ p ∈ ps, 1 ≤ p.1 ∧ p.1 ≤ 9) ∧ (∀ p ∈ ps, fok n p.2 = true) ∧ op + n ≤ 12 ∧
  ∀ H' v at', Ka a H H' → PosA qs at' rest → RdAt C a wl qs H' at' op → Rep H' v (.tup (ps.map pairD)) → Q v H'
theorem end_nx {qs rest : List Tok2} {a : Nat} (h : PosA qs a rest) (he : EndR rest) : nxS qs a ≠ W "number" ∧ nxS qs a ≠ W "name" ∧ nxT qs a ≠ [40] ∧ nxT qs a ≠ [91] := by
  rcases he with rfl | ⟨r', rfl⟩
  · unfold nxS nxT
    rw [h.nil]
    exact ⟨by decide +kernel, by decide +kernel, by decide, by decide⟩
  · rw [h.nxS, h.nxT]
    exact ⟨by show W "sign" ≠ _; decide +kernel, by show W "sign" ≠ _; decide +kernel, by show [41] ≠ [40]; decide, by show [41] ≠ [91]; decide⟩
section
variable {P : Program} {w : World} {K : PySem.W.Frag} {mg : Str → Option Value} {base : Heap} {C : Addr}
abbrev s_inners : Stmt := inClass (top 88) 11
abbrev N_inners : List Str := ["self", "found"]
theorem sc_inners : FnScope N_inners ["self"] (defScope s_inners) := ⟨rfl, rfl, rfl, by decide +kernel, rfl, by decide +kernel, by decide +kernel⟩
theorem cm_inners (F : Mf K C "inners" "WordReader.inners" s_inners ["self"]) (T : Tx mg) (R : Rdr K mg C) (m_next_text : Cm P w K mg base 1 C "next_text" (sp_next C nxT)) {n k : Nat} (hk1 : 1 ≤ k) (m_inner : Cm P w K mg base k C "inner" (sp_inner C n)) : Cm P w K mg base (k + 1) C "inners" (sp_inners C n) := by
  refine F.cm sc_inners (fun vs H Q E h => by obtain ⟨_, _, _, _, _, _, _, rfl, _⟩ := h; rfl) (fun f cdv A outer s H vs Q E hr h => ?_)
  have nd := sc_inners.nd
  obtain ⟨a, wl, qs, at_, op, ts, rest, rfl, hrd, hql, hpos, hend, l6, hfk, hop, k⟩ := h
  obtain ⟨dx, ef⟩ := id hrd.f
  refine ⟨_, (pss_cons (pset 1 nd (pe_lst pa_nil))
    (pss_cons (ps_while (passes_of rfl) (pt_cmpR op_eq (pmeth0 R m_next_text hr (by omega) (pv 0)) pe_str (nomark _)) (pss_cons (ps_if (pt_cmpR op_eq (pe_callB (call_lenK K) rfl T.n_len PySem.boot_len (pa_cons (pv 1) pa_nil)) (C8.pe_gc rfl T.g_MOST_JOINED) (nomark _)) (pss_one ps_never) pss_nil)
      (pss_one (ps_expr (pe_bm PySem.F.plainAttrs_list PySem.F.slot_list_append PySem.F.type_list_append mt_append (pv 1) (pa_cons (pmeth0 R m_inner hr (by omega) (pv 0)) pa_nil))))))
    (pss_one (ps_ret (pe_callTy (call_tupK K) rfl T.n_tuple bt_tuple (pa_cons (pv 1) pa_nil)))))), ?_⟩
  refine ⟨lsz, fun F0 hF => ?_⟩
  have nF : F0 ≠ a := fun z => by rw [z, ef] at hF; cases hF
  have nW : F0 ≠ wl := fun z => by
    obtain ⟨_, e, _⟩ := hrd.w
    rw [z, e] at hF
    cases hF
  have s1 : Same H (upd H F0 (.lst [])) := (Same.refl _).new hF
  refine ⟨fun m σ' H' => ∃ (at1 : Nat) (xs : List V) (ds ts' : List D), σ' = [some (.ref a), some (.ref F0)] ∧ Ka a H H' ∧ RdAt C a wl qs H' at1 op ∧ H' F0 = some (.lst xs) ∧ Reps H' xs ds ∧ ds ++ ts' = ts ∧ m = ts'.length ∧ PosA qs at1 ((ts'.map (ginT (gtk n))).flatten ++ rest),
    ⟨_, at_, [], [], ts, rfl, .of s1, hrd.same s1, upd_same, Reps.nil, rfl, rfl, hpos⟩, ?_⟩
  rintro m σ' H' ⟨at1, xs, ds, ts', rfl, k2, hrd2, eF, hxs, eds, rfl, hp⟩
  obtain ⟨dx2, ef2⟩ := id hrd2.f
  have hlen : ds.length + ts'.length ≤ 6 := by
    have := congrArg List.length eds
    rw [List.length_append] at this
    omega
  have hl : xs.length = ds.length := hxs.1
  refine ⟨_, rfl, a, dx2, _, rfl, ef2, rfl, a, wl, qs, at1, op, rfl, hrd2, fun H4 s4 => ?_⟩
  have hrd4 := hrd2.same s4
  have k4 := k2.trans (.of s4)
  have eF4 := s4 _ _ eF
  have hxs4 := hxs.same s4
  obtain ⟨dx4, ef4⟩ := id hrd4.f
  refine ⟨rfl, _, rfl, ?_⟩
  rw [dstr _ "("]
  cases ts' with
  | nil =>
    have hp : PosA qs at1 rest := hp
    rw [decide_eq_false (show ¬ nxT qs at1 = W "(" from fun z => (end_nx hp hend).2.2.1 (z.trans (by decide +kernel)))]
    refine iteF ⟨_, rfl, F0, xs, rfl, .inl ⟨sql eF4, fun l hl => ?_⟩⟩
    have s6 : Same H4 (upd H4 l (.tup xs)) := (Same.refl _).new hl
    have eds : ds = ts := by rw [← eds, List.append_nil]
    have hx6 := hxs4.same s6
    refine k _ _ at1 (k4.trans (.of s6)) hp (hrd4.same s6) (.tup upd_same ?_ ?_)
    · rw [← eds]
      exact hx6.1
    · rw [← eds]
      exact hx6.2
  | cons t1 ts1 =>
    have hp' : PosA qs at1 (ginT (gtk n) t1 ++ ((ts1.map (ginT (gtk n))).flatten ++ rest)) := by
      rw [List.map_cons, List.flatten_cons, List.append_assoc] at hp
      exact hp
    rw [decide_eq_true (show nxT qs at1 = W "(" by rw [PosA.nxT (q := sgT 40) hp']; decide +kernel)]
    refine iteT ⟨_, fun _ _ h => h, ?_⟩
    refine ⟨_, rfl, .ref F0, xs.length, rfl, .inl ⟨xs, sql eF4, rfl⟩, rfl, _, rfl, ?_⟩
    rw [decide_eq_false (show ¬ V.int (xs.length : Int) = V.int 6 from fun z => by have := V.int.inj z; rw [List.length_cons] at hlen; omega)]
    refine iteF ⟨_, rfl, .inl ⟨rfl, _, sql eF4⟩, _, rfl, a, dx4, _, rfl, ef4, rfl, a, wl, qs, at1, op, t1, _, rfl, hrd4, hql, hp', hfk t1 (by rw [← eds]; simp), hop, fun H6 v6 at6 k6 hp6 hrd6 hv6 => ?_⟩
    have eF6 := k6 _ _ nF eF4
    have g6 := k6.gr hrd4.f
    have g7 : Gr H6 (upd H6 F0 (.lst (xs ++ [v6]))) := gr_put eF6
    exact ⟨F0, xs, v6, rfl, rfl, eF6, sizes (by omega), ts1.length, by rw [List.length_cons]; omega, at6, xs ++ [v6], ds ++ [t1], ts1, rfl, (k4.trans k6).put hF, hrd6.put eF6 nF nW, upd_same, (hxs4.gr (g6.trans g7)).app (Reps.cons (hv6.gr g7) Reps.nil), by rw [List.append_assoc]; exact eds, rfl, hp6⟩
abbrev s_pairs : Stmt := inClass (top 88) 10
abbrev N_pairs : List Str := ["self", "found", "weight"]
theorem sc_pairs : FnScope N_pairs ["self"] (defScope s_pairs) := ⟨rfl, rfl, rfl, by decide +kernel, rfl, by decide +kernel, by decide +kernel⟩
theorem cm_pairs (F : Mf K C "pairs" "WordReader.pairs" s_pairs ["self"]) (T : Tx mg) (R : Rdr K mg C) (m_next_sort : Cm P w K mg base 1 C "next_sort" (sp_next C nxS)) (m_a_number : Cm P w K mg base 2 C "a_number" (sp_a_number C)) {n k : Nat} (hk1 : 2 ≤ k) (m_inner : Cm P w K mg base k C "inner" (sp_inner C n)) : Cm P w K mg base (k + 1) C "pairs" (sp_pairs C n) := by
  refine F.cm sc_pairs (fun vs H Q E h => by obtain ⟨_, _, _, _, _, _, _, rfl, _⟩ := h; rfl) (fun f cdv A outer s H vs Q E hr h => ?_)
  have nd := sc_pairs.nd
  obtain ⟨a, wl, qs, at_, op, ps, rest, rfl, hrd, hql, hpos, hend, l1, l6, hps, hfk, hop, k⟩ := h
  obtain ⟨dx, ef⟩ := id hrd.f
  refine ⟨_, (pss_cons (pset 1 nd (pe_lst pa_nil))
    (pss_cons (ps_while (passes_of rfl) (PW.pt (pw_or (pt_cmpR (op_eqEK K hr) (pv 1) (pe_lst pa_nil) (nomark _)) (pw_or1 (pt_cmpR op_eq (pmeth0 R m_next_sort hr (by omega) (pv 0)) (C8.pe_gc rfl T.g_NUMBER) (nomark _))))) (pss_cons (ps_if (pt_cmpR op_eq (pe_callB (call_lenK K) rfl T.n_len PySem.boot_len (pa_cons (pv 1) pa_nil)) (C8.pe_gc rfl T.g_MOST_JOINED) (nomark _)) (pss_one ps_never) pss_nil)
      (pss_cons (pset 2 nd (pmeth R m_a_number hr (by omega) (pv 0) (pa_cons pe_int (pa_cons (C8.pe_gc rfl T.g_MOST_WEIGHT) pa_nil))))
      (pss_one (ps_expr (pe_bm PySem.F.plainAttrs_list PySem.F.slot_list_append PySem.F.type_list_append mt_append (pv 1) (pa_cons (pe_tup (pa_cons (pv 2) (pa_cons (pmeth0 R m_inner hr (by omega) (pv 0)) pa_nil))) pa_nil)))))))
    (pss_one (ps_ret (pe_callTy (call_tupK K) rfl T.n_tuple bt_tuple (pa_cons (pv 1) pa_nil)))))), ?_⟩
  refine ⟨lsz, fun F0 hF => ?_⟩
  have nF : F0 ≠ a := fun z => by rw [z, ef] at hF; cases hF
  have nW : F0 ≠ wl := fun z => by
    obtain ⟨_, e, _⟩ := hrd.w
    rw [z, e] at hF
    cases hF
  have s1 : Same H (upd H F0 (.lst [])) := (Same.refl _).new hF
  refine ⟨fun m σ' H' => ∃ (at1 : Nat) (xs : List V) (ds ts' : List (Int × D)) (z : Option V), σ' = [some (.ref a), some (.ref F0), z] ∧ Ka a H H' ∧ RdAt C a wl qs H' at1 op ∧ H' F0 = some (.lst xs) ∧ Reps H' xs (ds.map pairD) ∧ ds ++ ts' = ps ∧ m = ts'.length ∧ PosA qs at1 ((ts'.map fun p => numT p.1 :: ginT (gtk n) p.2).flatten ++ rest),
    ⟨_, at_, [], [], ps, none, rfl, .of s1, hrd.same s1, upd_same, Reps.nil, rfl, rfl, hpos⟩, ?_⟩
  rintro m σ' H' ⟨at1, xs, ds, ts', z0, rfl, k2, hrd2, eF, hxs, eds, rfl, hp⟩
  have hlen : ds.length + ts'.length = ps.length := by
    have := congrArg List.length eds
    rw [List.length_append] at this
    exact this
  have hl : xs.length = ds.length := by have := hxs.1; rw [List.length_map] at this; exact this
  refine ⟨_, rfl, lsz, fun q hq => ⟨F0, q, xs, rfl, rfl, sql (up_ne eF hq), sql upd_same, _, rfl, ?_⟩⟩
  have s4 : Same H' (upd H' q (.lst [])) := (Same.refl _).new hq
  generalize (upd H' q (.lst [])) = H4 at *
  have hrd4 := hrd2.same s4
  have k4 := k2.trans (.of s4)
  have eF4 := s4 _ _ eF
  have hxs4 := hxs.same s4
  obtain ⟨dx4, ef4⟩ := id hrd4.f
  cases ts' with
  | nil =>
    have hp : PosA qs at1 rest := hp
    have hne : (xs.isEmpty != false) = false := by
      cases xs with
      | nil => simp at hl hlen; omega
      | cons x r => rfl
    rw [hne]
    refine iteF ⟨_, rfl, a, dx4, _, rfl, ef4, rfl, a, wl, qs, at1, op, rfl, hrd4, fun H5 s5 => ⟨rfl, _, rfl, ?_⟩⟩
    rw [dstr _ "number", decide_eq_false (end_nx hp hend).1]
    have eF5 := s5 _ _ eF4
    refine iteF ⟨_, rfl, F0, xs, rfl, .inl ⟨sql eF5, fun l hl => ?_⟩⟩
    have s6 : Same H4 (upd H5 l (.tup xs)) := s5.new hl
    have eds : ds = ps := by rw [← eds, List.append_nil]
    have hx6 := hxs4.same s6
    refine k _ _ at1 (k4.trans (.of s6)) hp (hrd4.same s6) (.tup upd_same ?_ ?_)
    · rw [← eds]
      exact hx6.1
    · rw [← eds]
      exact hx6.2
  | cons p1 ts1 =>
    have hp' : PosA qs at1 (numT p1.1 :: (ginT (gtk n) p1.2 ++ ((ts1.map fun p => numT p.1 :: ginT (gtk n) p.2).flatten ++ rest))) := by
      rw [List.map_cons, List.flatten_cons, List.append_assoc] at hp
      exact hp
    obtain ⟨hqn, hp2⟩ := hp'.step
    have hpm : p1 ∈ ps := by rw [← eds]; simp
    have hw1 := hps p1 hpm
    have body : ∀ H5, Same H4 H5 → RdAt C a wl qs H5 at1 op ∧ H5 F0 = some (.lst xs) ∧ Reps H5 xs (ds.map pairD) ∧ Ka a H H5 ∧ ¬ V.int (xs.length : Int) = V.int 6 := fun H5 s5 => ⟨hrd4.same s5, s5 _ _ eF4, hxs4.same s5, k4.trans (.of s5), fun z => by have := V.int.inj z; rw [List.length_cons] at hlen; omega⟩
    have go : ∀ H5, Same H4 H5 → ∀ dx5 fs5, H5 a = some (.ins C dx5 fs5) → ∀ H6, Ka a H5 H6 → RdAt C a wl qs H6 (at1 + 1) op → ∀ dx6 fs6, H6 a = some (.ins C dx6 fs6) → ∀ H7 v7 at7, Ka a H6 H7 → PosA qs at7 ((ts1.map fun p => numT p.1 :: ginT (gtk n) p.2).flatten ++ rest) → RdAt C a wl qs H7 at7 op → Rep H7 v7 p1.2 → ∀ t, H7 t = none → ∃ l xs' y, V.ref F0 = .ref l ∧ [V.ref t] = [y] ∧ (upd H7 t (.tup [.int p1.1, v7])) l = some (.lst xs') ∧ xs'.length < sizeLine ∧ ∃ m', m' < (p1 :: ts1).length ∧ ∃ (at1 : Nat) (xs : List V) (ds ts' : List (Int × D)) (z : Option V), ([some (V.ref a), some (V.ref F0), some (V.int p1.1)] : List (Option V)) = [some (.ref a), some (.ref F0), z] ∧ Ka a H (upd (upd H7 t (.tup [.int p1.1, v7])) l (.lst (xs' ++ [y]))) ∧ RdAt C a wl qs (upd (upd H7 t (.tup [.int p1.1, v7])) l (.lst (xs' ++ [y]))) at1 op ∧ (upd (upd H7 t (.tup [.int p1.1, v7])) l (.lst (xs' ++ [y]))) F0 = some (.lst xs) ∧ Reps (upd (upd H7 t (.tup [.int p1.1, v7])) l (.lst (xs' ++ [y]))) xs (ds.map pairD) ∧ ds ++ ts' = ps ∧ m' = ts'.length ∧ PosA qs at1 ((ts'.map fun p => numT p.1 :: ginT (gtk n) p.2).flatten ++ rest) := fun H5 s5 dx5 fs5 ef5 H6 k6 hrd6 dx6 fs6 ef6 H7 v7 at7 k7 hp7 hrd7 hv7 t ht => by
      obtain ⟨hrd5, eF5, hxs5, k5, _⟩ := body H5 s5
      have k57 := k6.trans k7
      have eF7 := k57 _ _ nF eF5
      have g57 := k57.gr hrd5.f
      have s8 : Same H7 (upd H7 t (.tup [.int p1.1, v7])) := (Same.refl _).new ht
      have et8 : (upd H7 t (.tup [.int p1.1, v7])) t = some (.tup [.int p1.1, v7]) := upd_same
      have eF8 := s8 _ _ eF7
      generalize (upd H7 t (.tup [.int p1.1, v7])) = H8 at *
      have g9 : Gr H8 (upd H8 F0 (.lst (xs ++ [.ref t]))) := gr_put eF8
      have hpr : Rep H8 (.ref t) (pairD p1) := .tup et8 rfl (Reps.cons (.int _) (Reps.cons (hv7.same s8) Reps.nil)).2
      refine ⟨F0, xs, .ref t, rfl, rfl, eF8, sizes (by omega), ts1.length, by rw [List.length_cons]; omega, at7, xs ++ [.ref t], ds ++ [p1], ts1, _, rfl, ((k5.trans k57).trans (.of s8)).put hF, (hrd7.same s8).put eF8 nF nW, upd_same, ?_, by rw [List.append_assoc]; exact eds, rfl, hp7⟩
      rw [List.map_append]
      exact (hxs5.gr ((g57.trans (.of s8)).trans g9)).app (Reps.cons (hpr.gr g9) Reps.nil)
    cases xs with
    | nil =>
      refine iteT ⟨_, fun _ _ h => h, ?_⟩
      refine ⟨_, rfl, .ref F0, 0, rfl, .inl ⟨[], sql eF4, rfl⟩, rfl, _, rfl, ?_⟩
      refine iteF ⟨_, rfl, a, dx4, _, rfl, ef4, rfl, a, wl, qs, at1, op, 1, 9, p1.1, rfl, hrd4, hqn, hw1.1, hw1.2, by omega, fun H6 k6 hrd6 => ?_⟩
      obtain ⟨dx6, ef6⟩ := id hrd6.f
      exact ⟨_, rfl, .inl ⟨rfl, _, sql (k6 _ _ nF eF4)⟩, _, rfl, _, rfl, a, dx6, _, rfl, ef6, rfl, a, wl, qs, at1 + 1, op, p1.2, _, rfl, hrd6, hql, hp2, hfk p1 hpm, hop, fun H7 v7 at7 k7 hp7 hrd7 hv7 => ⟨lsz, fun t ht => go H4 (Same.refl _) dx4 _ ef4 H6 k6 hrd6 dx6 _ ef6 H7 v7 at7 k7 hp7 hrd7 hv7 t ht⟩⟩
    | cons x0 xr =>
      refine iteF ⟨_, rfl, a, dx4, _, rfl, ef4, rfl, a, wl, qs, at1, op, rfl, hrd4, fun H5 s5 => ⟨rfl, _, rfl, ?_⟩⟩
      rw [dstr _ "number", decide_eq_true (show nxS qs at1 = W "number" by rw [hp'.nxS]; rfl)]
      obtain ⟨hrd5, eF5, hxs5, k5, h6⟩ := body H5 s5
      obtain ⟨dx5, ef5⟩ := id hrd5.f
      refine iteT ⟨_, fun _ _ h => h, ?_⟩
      refine ⟨_, rfl, .ref F0, (x0 :: xr).length, rfl, .inl ⟨_, sql eF5, rfl⟩, rfl, _, rfl, ?_⟩
      rw [decide_eq_false h6]
      refine iteF ⟨_, rfl, a, dx5, _, rfl, ef5, rfl, a, wl, qs, at1, op, 1, 9, p1.1, rfl, hrd5, hqn, hw1.1, hw1.2, by omega, fun H6 k6 hrd6 => ?_⟩
      obtain ⟨dx6, ef6⟩ := id hrd6.f
      exact ⟨_, rfl, .inl ⟨rfl, _, sql (k6 _ _ nF eF5)⟩, _, rfl, _, rfl, a, dx6, _, rfl, ef6, rfl, a, wl, qs, at1 + 1, op, p1.2, _, rfl, hrd6, hql, hp2, hfk p1 hpm, hop, fun H7 v7 at7 k7 hp7 hrd7 hv7 => ⟨lsz, fun t ht => go H5 s5 dx5 _ ef5 H6 k6 hrd6 dx6 _ ef6 H7 v7 at7 k7 hp7 hrd7 hv7 t ht⟩⟩
end
end K6
set_option maxHeartbeats 4000001
namespace K6
open L2 PySem PySem.Spec PyProof.Rows
theorem hx_from {args : List D} (h : hf (.tup (.str (W "from") :: args)) = true) : ∃ i j : Int, args = [.int i, .int j] ∧ span (.int i) (.int j) = true := by
  have h2 := hf_inv h
  generalize he : D.tup (.str (W "from") :: args) = d at h2
  have go : ∀ {s : String} {as : List D}, D.tup (.str (W "from") :: args) = gnD s as → W "from" = W s ∧ args = as := fun {s as} e => by
    injection e with e
    injection e with e1 e2
    injection e1 with e1
    exact ⟨e1, e2⟩
  cases h2
  case «from» i j hs => exact ⟨i, j, (go he).2, hs⟩
  all_goals exact absurd (go he).1 (by decide +kernel)
theorem hx_row {args : List D} (h : hf (.tup (.str (W "row") :: args)) = true) : ∃ (i j : Int) (d : D), args = [.int i, .int j, d] ∧ 0 ≤ i ∧ i ≤ j ∧ j ≤ 6 := by
  have h2 := hf_inv h
  generalize he : D.tup (.str (W "row") :: args) = d at h2
  have go : ∀ {s : String} {as : List D}, D.tup (.str (W "row") :: args) = gnD s as → W "row" = W s ∧ args = as := fun {s as} e => by
    injection e with e
    injection e with e1 e2
    injection e1 with e1
    exact ⟨e1, e2⟩
  cases h2
  case row i j d h1 h2 h3 => exact ⟨i, j, d, (go he).2, h1, h2, h3⟩
  all_goals exact absurd (go he).1 (by decide +kernel)
theorem hx_turn {args : List D} (h : hf (.tup (.str (W "turn") :: args)) = true) : ∃ (x : List Nat) (d : D), args = [.str x, d] ∧ x ∈ turnW := by
  have h2 := hf_inv h
  generalize he : D.tup (.str (W "turn") :: args) = d at h2
  have go : ∀ {s : String} {as : List D}, D.tup (.str (W "turn") :: args) = gnD s as → W "turn" = W s ∧ args = as := fun {s as} e => by
    injection e with e
    injection e with e1 e2
    injection e1 with e1
    exact ⟨e1, e2⟩
  cases h2
  case turn x d hx => exact ⟨x, d, (go he).2, hx⟩
  all_goals exact absurd (go he).1 (by decide +kernel)
theorem hx_keep {args : List D} (h : hf (.tup (.str (W "keep") :: args)) = true) : ∃ (x : List Nat) (n : Int) (d : D), args = [.str x, .int n, d] ∧ x ∈ testW ∧ 0 ≤ n ∧ n ≤ 3 := by
  have h2 := hf_inv h
  generalize he : D.tup (.str (W "keep") :: args) = d at h2
  have go : ∀ {s : String} {as : List D}, D.tup (.str (W "keep") :: args) = gnD s as → W "keep" = W s ∧ args = as := fun {s as} e => by
    injection e with e
    injection e with e1 e2
    injection e1 with e1
    exact ⟨e1, e2⟩
  cases h2
  case keep x n d hx h1 h2 => exact ⟨x, n, d, (go he).2, hx, h1, h2⟩
  all_goals exact absurd (go he).1 (by decide +kernel)
theorem hx_let {args : List D} (h : hf (.tup (.str (W "let") :: args)) = true) : ∃ (x : List Nat) (c d : D), args = [.str x, c, d] ∧ isNm x = true := by
  have h2 := hf_inv h
  generalize he : D.tup (.str (W "let") :: args) = d at h2
  have go : ∀ {s : String} {as : List D}, D.tup (.str (W "let") :: args) = gnD s as → W "let" = W s ∧ args = as := fun {s as} e => by
    injection e with e
    injection e with e1 e2
    injection e1 with e1
    exact ⟨e1, e2⟩
  cases h2
  case «let» x c d hx => exact ⟨x, c, d, (go he).2, hx⟩
  all_goals exact absurd (go he).1 (by decide +kernel)
theorem hx_var {args : List D} (h : hf (.tup (.str (W "var") :: args)) = true) : ∃ x : List Nat, args = [.str x] ∧ isNm x = true := by
  have h2 := hf_inv h
  generalize he : D.tup (.str (W "var") :: args) = d at h2
  have go : ∀ {s : String} {as : List D}, D.tup (.str (W "var") :: args) = gnD s as → W "var" = W s ∧ args = as := fun {s as} e => by
    injection e with e
    injection e with e1 e2
    injection e1 with e1
    exact ⟨e1, e2⟩
  cases h2
  case var x hx => exact ⟨x, (go he).2, hx⟩
  all_goals exact absurd (go he).1 (by decide +kernel)
theorem hx_upto {args : List D} (h : hf (.tup (.str (W "upto") :: args)) = true) : ∃ x : List Nat, args = [.str x] ∧ isNm x = true := by
  have h2 := hf_inv h
  generalize he : D.tup (.str (W "upto") :: args) = d at h2
  have go : ∀ {s : String} {as : List D}, D.tup (.str (W "upto") :: args) = gnD s as → W "upto" = W s ∧ args = as := fun {s as} e => by
    injection e with e
    injection e with e1 e2
    injection e1 with e1
    exact ⟨e1, e2⟩
  cases h2
  case upto x hx => exact ⟨x, (go he).2, hx⟩
  all_goals exact absurd (go he).1 (by decide +kernel)
theorem hx_times {args : List D} (h : hf (.tup (.str (W "times") :: args)) = true) : ∃ (x : List Nat) (d : D), args = [.str x, d] ∧ isNm x = true := by
  have h2 := hf_inv h
  generalize he : D.tup (.str (W "times") :: args) = d at h2
  have go : ∀ {s : String} {as : List D}, D.tup (.str (W "times") :: args) = gnD s as → W "times" = W s ∧ args = as := fun {s as} e => by
    injection e with e
    injection e with e1 e2
    injection e1 with e1
    exact ⟨e1, e2⟩
  cases h2
  case times x d hx => exact ⟨x, d, (go he).2, hx⟩
  all_goals exact absurd (go he).1 (by decide +kernel)
theorem hx_grow {args : List D} (h : hf (.tup (.str (W "grow") :: args)) = true) : ∃ (n : Int) (c d : D), args = [.int n, c, d] ∧ 0 ≤ n ∧ n ≤ 3 := by
  have h2 := hf_inv h
  generalize he : D.tup (.str (W "grow") :: args) = d at h2
  have go : ∀ {s : String} {as : List D}, D.tup (.str (W "grow") :: args) = gnD s as → W "grow" = W s ∧ args = as := fun {s as} e => by
    injection e with e
    injection e with e1 e2
    injection e1 with e1
    exact ⟨e1, e2⟩
  cases h2
  case grow n c d h1 h2 => exact ⟨n, c, d, (go he).2, h1, h2⟩
  all_goals exact absurd (go he).1 (by decide +kernel)
theorem hf_words {w : List Nat} {args : List D} (h : hf (.tup (.str w :: args)) = true) : w ∈ (["just", "some", "from", "mix", "all", "row", "turn", "keep", "let", "var", "upto", "times", "grow", "again"] : List String).map W := by
  have h2 := hf_inv h
  generalize he : D.tup (.str w :: args) = d at h2
  have go : ∀ {s : String} {as : List D}, D.tup (.str w :: args) = gnD s as → w = W s := fun {s as} e => by
    injection e with e
    injection e with e1 e2
    injection e1 with e1
  cases h2 <;> (rw [go he]; decide +kernel)
theorem kW (l : List String) : (l.map Str.ofString).map V.str = (l.map W).map fun w => V.str (S w) := by
  (rw [List.map_map, List.map_map])
  refine List.map_congr_left fun s _ => ?_
  show V.str _ = V.str (S (W s))
  rw [S_W]
def sp_rest (C : Addr) (n : Nat) : Sp := fun vs H Q _ => ∃ a wl qs at_ op w args rest, vs = [.ref a, .str (S w)] ∧ RdAt C a wl qs H at_ op ∧ qs.length ≤ 100000 ∧ PosA qs at_ ((args.map (argTk (gtk n))).flatten ++ rest) ∧
  hf (.tup (.str w :: args)) = true ∧ w ≠ W "just" ∧ w ≠ W "some" ∧ w ≠ W "mix" ∧ w ≠ W "all" ∧ w ≠ W "again" ∧ (∀ t ∈ kidsG (.tup (.str w :: args)), fok n t = true) ∧ op + n ≤ 12 ∧
  ∀ H' v at', Ka a H H' → PosA qs at' rest → RdAt C a wl qs H' at' op → Rep H' v (.tup args) → Q v H'
section
variable {P : Program} {w : World} {K : PySem.W.Frag} {mg : Str → Option Value} {base : Heap} {C : Addr}
abbrev s_rest_of : Stmt := inClass (top 88) 12
abbrev N_rest_of : List Str := ["self", "word", "low"]
theorem sc_rest_of : FnScope N_rest_of ["self", "word"] (defScope s_rest_of) := ⟨rfl, rfl, rfl, by decide +kernel, rfl, by decide +kernel, by decide +kernel⟩
theorem cm_rest_of {aT aS : Addr} (F : Mf K C "rest_of" "WordReader.rest_of" s_rest_of ["self", "word"]) (T : Tx mg) (R : Rdr K mg C) (W_TURNS : KTab K w mg "TURNS" (turnS.map Str.ofString) aT) (W_TESTS : KTab K w mg "TESTS" (testS.map Str.ofString) aS)
    (m_a_number : Cm P w K mg base 2 C "a_number" (sp_a_number C)) (m_a_name : Cm P w K mg base 2 C "a_name" (sp_a_name C)) (m_one_word : Cm P w K mg base 2 C "one_word" (sp_one_word C)) {n k : Nat} (hk1 : 2 ≤ k) (m_inner : Cm P w K mg base k C "inner" (sp_inner C n)) : Cm P w K mg base (k + 1) C "rest_of" (sp_rest C n) := by
  refine F.cm sc_rest_of (fun vs H Q E h => by obtain ⟨_, _, _, _, _, _, _, _, rfl, _⟩ := h; rfl) (fun f cdv A outer s H vs Q E hr h => ?_)
  have nd := sc_rest_of.nd
  obtain ⟨a, wl, qs, at_, op, wd, args, rest, rfl, hrd, hql, hpos, hh, n1, n2, n3, n4, n5, hfk, hop, k⟩ := h
  obtain ⟨dx, ef⟩ := id hrd.f
  refine ⟨_, (pss_cons (ps_if (pt_cmpR op_eq (pv 1) pe_str (nomark _)) (pss_cons (pset 2 nd (pmeth R m_a_number hr (by omega) (pv 0) (pa_cons (pe_op op_sub pe_int (pe_op op_pow pe_int pe_int)) (pa_cons (pe_op op_sub (pe_op op_pow pe_int pe_int) pe_int) pa_nil))))
      (pss_one (ps_ret (pe_tup (pa_cons (pv 2) (pa_cons (pmeth R m_a_number hr (by omega) (pv 0) (pa_cons (pv 2) (pa_cons (pe_op op_add (pv 2) (C8.pe_gc rfl T.g_MOST_SPAN)) pa_nil))) pa_nil)))))) pss_nil)
    (pss_cons (ps_if (pt_cmpR op_eq (pv 1) pe_str (nomark _)) (pss_cons (pset 2 nd (pmeth R m_a_number hr (by omega) (pv 0) (pa_cons pe_int (pa_cons (C8.pe_gc rfl T.g_MOST_JOINED) pa_nil))))
      (pss_one (ps_ret (pe_tup (pa_cons (pv 2) (pa_cons (pmeth R m_a_number hr (by omega) (pv 0) (pa_cons (pv 2) (pa_cons (C8.pe_gc rfl T.g_MOST_JOINED) pa_nil))) (pa_cons (pmeth0 R m_inner hr (by omega) (pv 0)) pa_nil))))))) pss_nil)
    (pss_cons (ps_if (pt_cmpR op_eq (pv 1) pe_str (nomark _)) (pss_one (ps_ret (pe_tup (pa_cons (pmeth R m_one_word hr (by omega) (pv 0) (pa_cons (pe_callTy (call_listW rfl W_TURNS) rfl T.n_list bt_list (pa_cons (C8.pe_gc rfl W_TURNS.m) pa_nil)) pa_nil)) (pa_cons (pmeth0 R m_inner hr (by omega) (pv 0)) pa_nil))))) pss_nil)
    (pss_cons (ps_if (pt_cmpR op_eq (pv 1) pe_str (nomark _)) (pss_one (ps_ret (pe_tup (pa_cons (pmeth R m_one_word hr (by omega) (pv 0) (pa_cons (pe_callTy (call_listW rfl W_TESTS) rfl T.n_list bt_list (pa_cons (C8.pe_gc rfl W_TESTS.m) pa_nil)) pa_nil)) (pa_cons (pmeth R m_a_number hr (by omega) (pv 0) (pa_cons pe_int (pa_cons (C8.pe_gc rfl T.g_MOST_MORE) pa_nil))) (pa_cons (pmeth0 R m_inner hr (by omega) (pv 0)) pa_nil)))))) pss_nil)
    (pss_cons (ps_if (pt_cmpR op_eq (pv 1) pe_str (nomark _)) (pss_one (ps_ret (pe_tup (pa_cons (pmeth0 R m_a_name hr (by omega) (pv 0)) (pa_cons (pmeth0 R m_inner hr (by omega) (pv 0)) (pa_cons (pmeth0 R m_inner hr (by omega) (pv 0)) pa_nil)))))) pss_nil)
    (pss_cons (ps_if (pt_cmpR op_eq (pv 1) pe_str (nomark _)) (pss_one (ps_ret (pe_tup (pa_cons (pmeth R m_a_number hr (by omega) (pv 0) (pa_cons pe_int (pa_cons (C8.pe_gc rfl T.g_MOST_MORE) pa_nil))) (pa_cons (pmeth0 R m_inner hr (by omega) (pv 0)) (pa_cons (pmeth0 R m_inner hr (by omega) (pv 0)) pa_nil)))))) pss_nil)
    (pss_one (ps_ret (pe_ifExp (pt_cmpR op_eq (pv 1) pe_str (nomark _)) (pe_tup (pa_cons (pmeth0 R m_a_name hr (by omega) (pv 0)) (pa_cons (pmeth0 R m_inner hr (by omega) (pv 0)) pa_nil))) (pe_tup (pa_cons (pmeth0 R m_a_name hr (by omega) (pv 0)) pa_nil))))))))))), ?_⟩
  have kid : ∀ t, t ∈ kidsG (.tup (.str wd :: args)) → argTk (gtk n) t = ginT (gtk n) t ∧ fok n t = true := fun t ht => ⟨argTk_kid (fok_hf (hfk t ht)), hfk t ht⟩
  have fin : ∀ (H' : Hp) (vs : List V) (at' : Nat), Ka a H H' → PosA qs at' rest → RdAt C a wl qs H' at' op → Reps H' vs args → ∀ p, H' p = none → Q (.ref p) (upd H' p (.tup vs)) := fun H' vs at' kk hp hr2 hv p hpn => by
    have s1 : Same H' (upd H' p (.tup vs)) := (Same.refl _).new hpn
    exact k _ _ at' (kk.trans (.of s1)) hp (hr2.same s1) (.tup upd_same hv.1 (hv.same s1).2)
  (refine ⟨_, rfl, rfl, _, rfl, ?_⟩)
  rw [dstr wd "from"]
  by_cases e1 : wd = W "from"
  · rw [decide_eq_true e1]
    subst e1
    obtain ⟨i, j, rfl, hs⟩ := hx_from hh
    rw [span_int] at hs
    simp only [bnd, Bool.and_eq_true, decide_eq_true_eq] at hs
    have hpos : PosA qs at_ (numT i :: numT j :: rest) := hpos
    obtain ⟨hq, hpos2⟩ := hpos.step
    obtain ⟨hq2, hpos3⟩ := hpos2.step
    have e30 : (10 : Int) ^ (30 : Int).toNat = 10 ^ 30 := rfl
    refine iteT ⟨_, rfl, a, dx, _, rfl, ef, rfl, _, _, rfl, rfl, ⟨by decide, by decide, by decide⟩, 1, _, rfl, rfl, _, _, rfl, rfl, ⟨by decide, by decide, by decide⟩, _, 1, rfl, rfl, a, wl, qs, at_, op, _, _, i, rfl, hrd, hq, by omega, by omega, by omega, fun H2 k2 hrd2 => ?_⟩
    obtain ⟨dx2, ef2⟩ := id hrd2.f
    refine ⟨_, rfl, _, rfl, a, dx2, _, rfl, ef2, rfl, _, rfl, _, rfl, i, 99, rfl, rfl, a, wl, qs, at_ + 1, op, _, _, j, rfl, hrd2, hq2, by omega, by omega, by omega, fun H3 k3 hrd3 => ⟨lsz, ?_⟩⟩
    exact fin H3 [.int i, .int j] _ (k2.trans k3) hpos3 hrd3 (Reps.cons (.int _) (Reps.cons (.int _) Reps.nil))
  rw [decide_eq_false e1]
  refine iteF ⟨_, rfl, rfl, _, rfl, ?_⟩
  rw [dstr wd "row"]
  by_cases e2 : wd = W "row"
  · rw [decide_eq_true e2]
    subst e2
    obtain ⟨i, j, d, rfl, h1, h2, h3⟩ := hx_row hh
    obtain ⟨ek, hfd⟩ := kid d (List.mem_singleton.mpr rfl)
    have hpos : PosA qs at_ (numT i :: numT j :: (ginT (gtk n) d ++ rest)) := by
      rw [← ek]
      have e : (([D.int i, .int j, d] : List D).map (argTk (gtk n))).flatten ++ rest = numT i :: numT j :: (argTk (gtk n) d ++ rest) := by simp [argTk]
      rw [← e]
      exact hpos
    obtain ⟨hq, hpos2⟩ := hpos.step
    obtain ⟨hq2, hpos3⟩ := hpos2.step
    refine iteT ⟨_, rfl, a, dx, _, rfl, ef, rfl, a, wl, qs, at_, op, 0, 6, i, rfl, hrd, hq, h1, by omega, by omega, fun H2 k2 hrd2 => ?_⟩
    obtain ⟨dx2, ef2⟩ := id hrd2.f
    refine ⟨_, rfl, _, rfl, a, dx2, _, rfl, ef2, rfl, _, rfl, a, wl, qs, at_ + 1, op, i, 6, j, rfl, hrd2, hq2, h2, h3, by omega, fun H3 k3 hrd3 => ?_⟩
    obtain ⟨dx3, ef3⟩ := id hrd3.f
    refine ⟨_, rfl, a, dx3, _, rfl, ef3, rfl, a, wl, qs, _, op, d, rest, rfl, hrd3, hql, hpos3, hfd, hop, fun H4 v at4 k4 hp4 hrd4 hv => ⟨lsz, ?_⟩⟩
    exact fin H4 [.int i, .int j, v] _ ((k2.trans k3).trans k4) hp4 hrd4 (Reps.cons (.int _) (Reps.cons (.int _) (Reps.cons hv Reps.nil)))
  rw [decide_eq_false e2]
  refine iteF ⟨_, rfl, rfl, _, rfl, ?_⟩
  rw [dstr wd "turn"]
  by_cases e3 : wd = W "turn"
  · rw [decide_eq_true e3]
    subst e3
    obtain ⟨x, d, rfl, hx⟩ := hx_turn hh
    obtain ⟨ek, hfd⟩ := kid d (List.mem_singleton.mpr rfl)
    have hpos : PosA qs at_ (runT x :: (ginT (gtk n) d ++ rest)) := by
      rw [← ek]
      have e : (([D.str x, d] : List D).map (argTk (gtk n))).flatten ++ rest = runT x :: (argTk (gtk n) d ++ rest) := by simp [argTk]
      rw [← e]
      exact hpos
    obtain ⟨hq, hpos2⟩ := hpos.step
    have hxl := turn_short x hx
    refine iteT ⟨_, rfl, a, dx, _, rfl, ef, rfl, rfl, fun L hL => ⟨a, wl, qs, at_, op, x, L, turnW, rfl, hrd.same ((Same.refl _).new hL), by rw [upd_same, kW]; rfl, hq, hx, fun H2 k2 hrd2 => ?_⟩⟩
    obtain ⟨dx2, ef2⟩ := id hrd2.f
    refine ⟨_, rfl, a, dx2, _, rfl, ef2, rfl, a, wl, qs, _, op, d, rest, rfl, hrd2, hql, hpos2, hfd, hop, fun H4 v at4 k4 hp4 hrd4 hv => ⟨lsz, ?_⟩⟩
    exact fin H4 [.str (S x), v] _ (((Ka.of ((Same.refl _).new hL)).trans k2).trans k4) hp4 hrd4 (Reps.cons (.str _ (by omega)) (Reps.cons hv Reps.nil))
  rw [decide_eq_false e3]
  refine iteF ⟨_, rfl, rfl, _, rfl, ?_⟩
  rw [dstr wd "keep"]
  by_cases e4 : wd = W "keep"
  · rw [decide_eq_true e4]
    subst e4
    obtain ⟨x, i, d, rfl, hx, h1, h2⟩ := hx_keep hh
    obtain ⟨ek, hfd⟩ := kid d (List.mem_singleton.mpr rfl)
    have hpos : PosA qs at_ (runT x :: numT i :: (ginT (gtk n) d ++ rest)) := by
      rw [← ek]
      have e : (([D.str x, .int i, d] : List D).map (argTk (gtk n))).flatten ++ rest = runT x :: numT i :: (argTk (gtk n) d ++ rest) := by simp [argTk]
      rw [← e]
      exact hpos
    obtain ⟨hq, hpos2⟩ := hpos.step
    obtain ⟨hq2, hpos3⟩ := hpos2.step
    have hxl := test_short x hx
    refine iteT ⟨_, rfl, a, dx, _, rfl, ef, rfl, rfl, fun L hL => ⟨a, wl, qs, at_, op, x, L, testW, rfl, hrd.same ((Same.refl _).new hL), by rw [upd_same, kW]; rfl, hq, hx, fun H2 k2 hrd2 => ?_⟩⟩
    obtain ⟨dx2, ef2⟩ := id hrd2.f
    refine ⟨_, rfl, a, dx2, _, rfl, ef2, rfl, a, wl, qs, at_ + 1, op, 0, 3, i, rfl, hrd2, hq2, h1, h2, by omega, fun H3 k3 hrd3 => ?_⟩
    obtain ⟨dx3, ef3⟩ := id hrd3.f
    refine ⟨_, rfl, a, dx3, _, rfl, ef3, rfl, a, wl, qs, _, op, d, rest, rfl, hrd3, hql, hpos3, hfd, hop, fun H4 v at4 k4 hp4 hrd4 hv => ⟨lsz, ?_⟩⟩
    exact fin H4 [.str (S x), .int i, v] _ (((Ka.of ((Same.refl _).new hL)).trans k2).trans (k3.trans k4)) hp4 hrd4 (Reps.cons (.str _ (by omega)) (Reps.cons (.int _) (Reps.cons hv Reps.nil)))
  rw [decide_eq_false e4]
  refine iteF ⟨_, rfl, rfl, _, rfl, ?_⟩
  rw [dstr wd "let"]
  by_cases e5 : wd = W "let"
  · rw [decide_eq_true e5]
    subst e5
    obtain ⟨x, c, d, rfl, hx⟩ := hx_let hh
    obtain ⟨ek1, hfc⟩ := kid c List.mem_cons_self
    obtain ⟨ek2, hfd⟩ := kid d (List.mem_cons_of_mem _ List.mem_cons_self)
    have hpos : PosA qs at_ (runT x :: (ginT (gtk n) c ++ (ginT (gtk n) d ++ rest))) := by
      rw [← ek1, ← ek2]
      have e : (([D.str x, c, d] : List D).map (argTk (gtk n))).flatten ++ rest = runT x :: (argTk (gtk n) c ++ (argTk (gtk n) d ++ rest)) := by simp [argTk]
      rw [← e]
      exact hpos
    obtain ⟨hq, hpos2⟩ := hpos.step
    have hxl := nm_short hx
    refine iteT ⟨_, rfl, a, dx, _, rfl, ef, rfl, a, wl, qs, at_, op, x, rfl, hrd, hq, hx, fun H2 k2 hrd2 => ?_⟩
    obtain ⟨dx2, ef2⟩ := id hrd2.f
    refine ⟨_, rfl, a, dx2, _, rfl, ef2, rfl, a, wl, qs, _, op, c, _, rfl, hrd2, hql, hpos2, hfc, hop, fun H3 v3 at3 k3 hp3 hrd3 hv3 => ?_⟩
    obtain ⟨dx3, ef3⟩ := id hrd3.f
    refine ⟨_, rfl, a, dx3, _, rfl, ef3, rfl, a, wl, qs, _, op, d, rest, rfl, hrd3, hql, hp3, hfd, hop, fun H4 v at4 k4 hp4 hrd4 hv => ⟨lsz, ?_⟩⟩
    exact fin H4 [.str (S x), v3, v] _ ((k2.trans k3).trans k4) hp4 hrd4 (Reps.cons (.str _ (by omega)) (Reps.cons (hv3.gr (k4.gr hrd3.f)) (Reps.cons hv Reps.nil)))
  rw [decide_eq_false e5]
  refine iteF ⟨_, rfl, rfl, _, rfl, ?_⟩
  rw [dstr wd "grow"]
  by_cases e6 : wd = W "grow"
  · rw [decide_eq_true e6]
    subst e6
    obtain ⟨i, c, d, rfl, h1, h2⟩ := hx_grow hh
    obtain ⟨ek1, hfc⟩ := kid c List.mem_cons_self
    obtain ⟨ek2, hfd⟩ := kid d (List.mem_cons_of_mem _ List.mem_cons_self)
    have hpos : PosA qs at_ (numT i :: (ginT (gtk n) c ++ (ginT (gtk n) d ++ rest))) := by
      rw [← ek1, ← ek2]
      have e : (([D.int i, c, d] : List D).map (argTk (gtk n))).flatten ++ rest = numT i :: (argTk (gtk n) c ++ (argTk (gtk n) d ++ rest)) := by simp [argTk]
      rw [← e]
      exact hpos
    obtain ⟨hq, hpos2⟩ := hpos.step
    refine iteT ⟨_, rfl, a, dx, _, rfl, ef, rfl, a, wl, qs, at_, op, 0, 3, i, rfl, hrd, hq, h1, h2, by omega, fun H2 k2 hrd2 => ?_⟩
    obtain ⟨dx2, ef2⟩ := id hrd2.f
    refine ⟨_, rfl, a, dx2, _, rfl, ef2, rfl, a, wl, qs, _, op, c, _, rfl, hrd2, hql, hpos2, hfc, hop, fun H3 v3 at3 k3 hp3 hrd3 hv3 => ?_⟩
    obtain ⟨dx3, ef3⟩ := id hrd3.f
    refine ⟨_, rfl, a, dx3, _, rfl, ef3, rfl, a, wl, qs, _, op, d, rest, rfl, hrd3, hql, hp3, hfd, hop, fun H4 v at4 k4 hp4 hrd4 hv => ⟨lsz, ?_⟩⟩
    exact fin H4 [.int i, v3, v] _ ((k2.trans k3).trans k4) hp4 hrd4 (Reps.cons (.int _) (Reps.cons (hv3.gr (k4.gr hrd3.f)) (Reps.cons hv Reps.nil)))
  rw [decide_eq_false e6]
  refine iteF ⟨_, rfl, rfl, _, rfl, ?_⟩
  rw [dstr wd "times"]
  by_cases e7 : wd = W "times"
  · rw [decide_eq_true e7]
    subst e7
    obtain ⟨x, d, rfl, hx⟩ := hx_times hh
    obtain ⟨ek, hfd⟩ := kid d (List.mem_singleton.mpr rfl)
    have hpos : PosA qs at_ (runT x :: (ginT (gtk n) d ++ rest)) := by
      rw [← ek]
      have e : (([D.str x, d] : List D).map (argTk (gtk n))).flatten ++ rest = runT x :: (argTk (gtk n) d ++ rest) := by simp [argTk]
      rw [← e]
      exact hpos
    obtain ⟨hq, hpos2⟩ := hpos.step
    have hxl := nm_short hx
    refine iteT ⟨_, rfl, a, dx, _, rfl, ef, rfl, a, wl, qs, at_, op, x, rfl, hrd, hq, hx, fun H2 k2 hrd2 => ?_⟩
    obtain ⟨dx2, ef2⟩ := id hrd2.f
    refine ⟨_, rfl, a, dx2, _, rfl, ef2, rfl, a, wl, qs, _, op, d, rest, rfl, hrd2, hql, hpos2, hfd, hop, fun H4 v at4 k4 hp4 hrd4 hv => ⟨lsz, ?_⟩⟩
    exact fin H4 [.str (S x), v] _ (k2.trans k4) hp4 hrd4 (Reps.cons (.str _ (by omega)) (Reps.cons hv Reps.nil))
  rw [decide_eq_false e7]
  obtain ⟨x, rfl, hx⟩ : ∃ x : List Nat, args = [.str x] ∧ isNm x = true := by
    have hw := hf_words hh
    simp only [List.map_cons, List.map_nil, List.mem_cons, List.not_mem_nil, or_false] at hw
    rcases hw with e | e | e | e | e | e | e | e | e | e | e | e | e | e
    · exact absurd e n1
    · exact absurd e n2
    · exact absurd e e1
    · exact absurd e n3
    · exact absurd e n4
    · exact absurd e e2
    · exact absurd e e3
    · exact absurd e e4
    · exact absurd e e5
    · subst e
      exact hx_var hh
    · subst e
      exact hx_upto hh
    · exact absurd e e7
    · exact absurd e e6
    · exact absurd e n5
  have hpos : PosA qs at_ (runT x :: rest) := hpos
  obtain ⟨hq, hpos2⟩ := hpos.step
  have hxl := nm_short hx
  refine iteF ⟨_, rfl, a, dx, _, rfl, ef, rfl, a, wl, qs, at_, op, x, rfl, hrd, hq, hx, fun H2 k2 hrd2 => ⟨lsz, ?_⟩⟩
  exact fin H2 [.str (S x)] _ k2 hpos2 hrd2 (Reps.cons (.str _ (by omega)) Reps.nil)
end
end K6
set_option maxHeartbeats 4000001
namespace K6
open L2 PySem PySem.Spec PyProof.Rows
def ws14 : List String := ["just", "some", "from", "mix", "all", "row", "turn", "keep", "let", "var", "upto", "times", "grow", "again"]
theorem lens_ks : (lensK.map (·.1)).map V.str = (ws14.map W).map fun w => V.str (S w) := by
  rw [← kW]
  rfl
def sp_winit (C : Addr) : Sp := fun vs H Q _ => ∃ a wl dx, vs = [.ref a, .ref wl] ∧ H a = some (.ins C dx []) ∧ Q .non (upd (upd (upd H a (.ins C dx [("words", .ref wl)])) a (.ins C dx [("words", .ref wl), ("at", .int 0)])) a (.ins C dx [("words", .ref wl), ("at", .int 0), ("opened", .int 0)]))
def sp_gen_at (n : Nat) : Sp := fun vs H Q _ => ∃ wl qs d, vs = [.ref wl, .int 0, .int 0] ∧ ToksL H wl qs ∧ qs = gtk n d ∧ fok n d = true ∧ n ≤ 12 ∧ qs.length ≤ 100000 ∧ ∀ H' p v, Same H H' → H' p = some (.tup [v, .int (qs.length : Int)]) → Rep H' v d → Q (.ref p) H'
def sp_read_gen : Sp := fun vs H Q _ => ∃ t d, vs = [.str (S t)] ∧ t.length ≤ 30000 ∧ toks t = gtk 6 d ∧ gw d = none ∧ ∀ H' v, Same H H' → Rep H' v d → Q v H'
def sp_read_thing : Sp := fun vs H Q _ => ∃ t d, vs = [.str (S t)] ∧ t.length ≤ 30000 ∧ toks t = ttk 6 d ∧ fb (gd (10 ^ 60)) 300 300 [([], d)] = none ∧ ∀ H' v, Same H H' → Rep H' v d → Q v H'
section
variable {P : Program} {w : World} {K : PySem.W.Frag} {mg : Str → Option Value} {base : Heap} {C : Addr}
abbrev s_generator : Stmt := inClass (top 88) 13
abbrev N_generator : List Str := ["self", "word"]
theorem sc_generator : FnScope N_generator ["self"] (defScope s_generator) := ⟨rfl, rfl, rfl, by decide +kernel, rfl, by decide +kernel, by decide +kernel⟩
theorem cm_generator {aT aS aL : Addr} (F : Mf K C "generator" "WordReader.generator" s_generator ["self"]) (Fi : Mf K C "inner" "WordReader.inner" s_inner ["self"]) (Fs : Mf K C "inners" "WordReader.inners" s_inners ["self"]) (Fp : Mf K C "pairs" "WordReader.pairs" s_pairs ["self"]) (Fr : Mf K C "rest_of" "WordReader.rest_of" s_rest_of ["self", "word"]) (T : Tx mg) (R : Rdr K mg C)
    (W_TURNS : KTab K w mg "TURNS" (turnS.map Str.ofString) aT) (W_TESTS : KTab K w mg "TESTS" (testS.map Str.ofString) aS) (W_LENGTHS : WTab K w mg "LENGTHS" lensK aL)
    (m_next_sort : Cm P w K mg base 1 C "next_sort" (sp_next C nxS)) (m_next_text : Cm P w K mg base 1 C "next_text" (sp_next C nxT)) (m_goes_past : Cm P w K mg base 1 C "goes_past" (sp_past C))
    (m_a_number : Cm P w K mg base 2 C "a_number" (sp_a_number C)) (m_a_name : Cm P w K mg base 2 C "a_name" (sp_a_name C)) (m_one_word : Cm P w K mg base 2 C "one_word" (sp_one_word C)) (m_a_thing : Cm P w K mg base 3 C "a_thing" (sp_a_thing C)) (m_things : Cm P w K mg base 4 C "things" (sp_things C)) : ∀ n, Cm P w K mg base (5 + 3 * n) C "generator" (sp_gr C n)
  | 0 => F.cm (k := 4) sc_generator (fun vs H Q E h => by obtain ⟨_, _, _, _, _, _, _, rfl, _⟩ := h; rfl) (fun f cdv A outer s H vs Q E hr h => by
      obtain ⟨_, _, _, _, _, _, _, _, _, _, _, _, h, _⟩ := h
      cases h)
  | n + 1 => by
    have m_generator := cm_generator F Fi Fs Fp Fr T R W_TURNS W_TESTS W_LENGTHS m_next_sort m_next_text m_goes_past m_a_number m_a_name m_one_word m_a_thing m_things n
    have m_inner := cm_inner Fi T R m_next_text m_goes_past (by omega) m_generator
    have m_inners := cm_inners Fs T R m_next_text (by omega) m_inner
    have m_pairs := cm_pairs Fp T R m_next_sort m_a_number (by omega) m_inner
    have m_rest_of := cm_rest_of Fr T R W_TURNS W_TESTS m_a_number m_a_name m_one_word (by omega) m_inner
    refine Cm.mono (F.cm (k := 7 + 3 * n) sc_generator (fun vs H Q E h => by obtain ⟨_, _, _, _, _, _, _, rfl, _⟩ := h; rfl) (fun f cdv A outer s H vs Q E hr h => ?_)) (by omega)
    have nd := sc_generator.nd
    obtain ⟨a, wl, qs, at_, op, d, rest, rfl, hrd, hql, hpos, hend, hfk, hop, k⟩ := h
    obtain ⟨wd, args, rfl, hl, hw⟩ := hf_split (fok_hf hfk)
    have hh := fok_hf hfk
    have hkids := fok_kids hfk
    obtain ⟨dx, ef⟩ := id hrd.f
    refine ⟨_, (pss_cons (pset 1 nd (pmeth R m_one_word hr (by omega) (pv 0) (pa_cons (pe_callTy (call_listW rfl W_LENGTHS.t) rfl T.n_list bt_list (pa_cons (C8.pe_gc rfl W_LENGTHS.m) pa_nil)) pa_nil)))
      (pss_cons (ps_if (pt_cmpR op_eq (pv 1) pe_str (nomark _)) (pss_one (ps_ret (pe_tup (pa_cons (pv 1) (pa_cons (pmeth0 R m_a_thing hr (by omega) (pv 0)) pa_nil))))) pss_nil)
      (pss_cons (ps_if (pt_cmpR op_eq (pv 1) pe_str (nomark _)) (pss_one (ps_ret (pe_tup (pa_cons (pv 1) (pa_cons (pmeth0 R m_things hr (by omega) (pv 0)) pa_nil))))) pss_nil)
      (pss_cons (ps_if (pt_cmpR op_eq (pv 1) pe_str (nomark _)) (pss_one (ps_ret (pe_tup (pa_cons (pv 1) (pa_cons (pmeth0 R m_pairs hr (by omega) (pv 0)) pa_nil))))) pss_nil)
      (pss_cons (ps_if (pt_cmpR op_eq (pv 1) pe_str (nomark _)) (pss_one (ps_ret (pe_tup (pa_cons (pv 1) (pa_cons (pmeth0 R m_inners hr (by omega) (pv 0)) pa_nil))))) pss_nil)
      (pss_one (ps_ret (pe_ifExp (pt_cmpR op_eq (pv 1) pe_str (nomark _)) (pe_tup (pa_cons (pv 1) pa_nil)) (pe_op op_catW (pe_tup (pa_cons (pv 1) pa_nil)) (pmeth R m_rest_of hr (by omega) (pv 0) (pa_cons (pv 1) pa_nil))))))))))), ?_⟩
    obtain ⟨body, ebody, hpos0⟩ : ∃ body, gtk (n + 1) (.tup (.str wd :: args)) = runT wd :: body ∧ PosA qs at_ (runT wd :: (body ++ rest)) := ⟨_, rfl, hpos⟩
    obtain ⟨hq, hpos1⟩ := hpos0.step
    have hwm := hf_words hh
    have hwl : wd.length ≤ 31 := by
      obtain ⟨z, hz, rfl⟩ := List.mem_map.mp hwm
      exact W_short z hz
    have fin : ∀ (H' : Hp) (xs : List V) (at' : Nat), Ka a H H' → PosA qs at' rest → RdAt C a wl qs H' at' op → Reps H' xs args → ∀ p H'', Same H' H'' → H'' p = some (.tup (.str (S wd) :: xs)) → Q (.ref p) H'' := fun H' xs at' kk hp hr2 hv p H'' s1 ep => by
      have hr : Reps H'' (.str (S wd) :: xs) (.str wd :: args) := Reps.cons (.str _ (by omega)) (hv.same s1)
      exact k _ _ at' (kk.trans (.of s1)) hp (hr2.same s1) (.tup ep hr.1 hr.2)
    refine ⟨_, rfl, a, dx, _, rfl, ef, rfl, rfl, fun L hL => ⟨a, wl, qs, at_, op, wd, L, ws14.map W, rfl, hrd.same ((Same.refl _).new hL), by rw [upd_same, lens_ks], hq, hwm, fun H2 k2' hrd2 => ?_⟩⟩
    have k2 : Ka a H H2 := (Ka.of ((Same.refl _).new hL)).trans k2'
    obtain ⟨dx2, ef2⟩ := id hrd2.f
    (refine ⟨_, rfl, rfl, _, rfl, ?_⟩)
    rw [dstr wd "just"]
    by_cases e1 : wd = W "just"
    · rw [decide_eq_true e1]
      obtain ⟨t, rfl⟩ := len_one (hl.trans (by rw [e1]; decide +kernel))
      have ho : own t = true := by subst e1; exact hw
      have eb : body = ttk 6 t := by
        have : gtk (n + 1) (.tup (.str wd :: [t])) = runT wd :: ttk 6 t := by subst e1; rfl
        rw [this] at ebody
        exact (List.cons.inj ebody).2.symm
      rw [eb] at hpos1
      refine iteT ⟨_, rfl, _, rfl, a, dx2, _, rfl, ef2, rfl, a, wl, qs, at_ + 1, op, t, rest, rfl, hrd2, hql, by omega, ?_, fun H3 v k3 hrd3 hv => ⟨lsz, fun p hp => fin H3 [v] _ (k2.trans k3) hpos1.app hrd3 (Reps.cons hv Reps.nil) p _ ((Same.refl _).new hp) upd_same⟩⟩
      rw [hpos1.1]
      exact (ti_thing (by decide) (by decide) 6 t (own_words ho).1).1 _ (by omega)
    rw [decide_eq_false e1]
    refine iteF ⟨_, rfl, rfl, _, rfl, ?_⟩
    rw [dstr wd "some"]
    by_cases e2 : wd = W "some"
    · rw [decide_eq_true e2]
      obtain ⟨t, rfl⟩ := len_one (hl.trans (by rw [e2]; decide +kernel))
      have hso : somesOk t = true := by subst e2; exact hw
      obtain ⟨ts, rfl, l1, l2, hts⟩ : ∃ ts, t = .tup ts ∧ 1 ≤ ts.length ∧ ts.length ≤ 9 ∧ ∀ t ∈ ts, own t = true := by
        cases t with
        | tup ds =>
          rw [somesOk_tup, Bool.and_eq_true] at hso
          obtain ⟨_, e, l1, l2⟩ := mny_inv hso.1
          cases e
          exact ⟨ds, rfl, by omega, by omega, List.all_eq_true.mp hso.2⟩
        | _ => cases hso
      have eb : body = (ts.map (ttk 6)).flatten := by
        have : gtk (n + 1) (.tup (.str wd :: [.tup ts])) = runT wd :: (ts.map (ttk 6)).flatten := by subst e2; rfl
        rw [this] at ebody
        exact (List.cons.inj ebody).2.symm
      rw [eb] at hpos1
      exact iteT ⟨_, rfl, _, rfl, a, dx2, _, rfl, ef2, rfl, a, wl, qs, at_ + 1, op, ts, rest, rfl, hrd2, hql, hpos1, hend, l1, l2, hts, by omega, fun H3 v at3 k3 hp3 hrd3 hv => ⟨lsz, fun p hp => fin H3 [v] _ (k2.trans k3) hp3 hrd3 (Reps.cons hv Reps.nil) p _ ((Same.refl _).new hp) upd_same⟩⟩
    rw [decide_eq_false e2]
    refine iteF ⟨_, rfl, rfl, _, rfl, ?_⟩
    rw [dstr wd "mix"]
    by_cases e3 : wd = W "mix"
    · rw [decide_eq_true e3]
      obtain ⟨ps, rfl, l1, l2, hps⟩ : ∃ ps : List (Int × D), args = [.tup (ps.map fun p => .tup [.int p.1, p.2])] ∧ 1 ≤ ps.length ∧ ps.length ≤ 6 ∧ ∀ p ∈ ps, 1 ≤ p.1 ∧ p.1 ≤ 9 := by subst e3; exact hf_mix hl hw
      have ek : kidsG (.tup (.str wd :: [.tup (ps.map fun p => .tup [.int p.1, p.2])])) = ps.map (·.2) := by
        subst e3
        show ((ps.map fun p => D.tup [.int p.1, p.2]).map sndD) = _
        rw [List.map_map]
        rfl
      have eb : body = (ps.map fun p => numT p.1 :: ginT (gtk n) p.2).flatten := by
        have : gtk (n + 1) (.tup (.str wd :: [.tup (ps.map fun p => .tup [.int p.1, p.2])])) = runT wd :: (ps.map fun p => numT p.1 :: ginT (gtk n) p.2).flatten := by
          subst e3
          show runT (W "mix") :: (((ps.map fun p => D.tup [.int p.1, p.2]).map fun p => numT (fstI p) :: ginT (gtk n) (sndD p)).flatten) = _
          rw [List.map_map]
          rfl
        rw [this] at ebody
        exact (List.cons.inj ebody).2.symm
      rw [eb] at hpos1
      exact iteT ⟨_, rfl, _, rfl, a, dx2, _, rfl, ef2, rfl, a, wl, qs, at_ + 1, op, ps, rest, rfl, hrd2, hql, hpos1, hend, l1, l2, hps, fun p hp => hkids p.2 (by rw [ek]; exact List.mem_map.mpr ⟨p, hp, rfl⟩), by omega, fun H3 v at3 k3 hp3 hrd3 hv => ⟨lsz, fun p hp => fin H3 [v] _ (k2.trans k3) hp3 hrd3 (Reps.cons hv Reps.nil) p _ ((Same.refl _).new hp) upd_same⟩⟩
    rw [decide_eq_false e3]
    refine iteF ⟨_, rfl, rfl, _, rfl, ?_⟩
    rw [dstr wd "all"]
    by_cases e4 : wd = W "all"
    · rw [decide_eq_true e4]
      obtain ⟨ts, rfl, l2⟩ : ∃ ds : List D, args = [.tup ds] ∧ ds.length ≤ 6 := by subst e4; exact hf_all hl hw
      have ek : kidsG (.tup (.str wd :: [.tup ts])) = ts := by subst e4; rfl
      have eb : body = (ts.map (ginT (gtk n))).flatten := by
        have : gtk (n + 1) (.tup (.str wd :: [.tup ts])) = runT wd :: (ts.map (ginT (gtk n))).flatten := by subst e4; rfl
        rw [this] at ebody
        exact (List.cons.inj ebody).2.symm
      rw [eb] at hpos1
      exact iteT ⟨_, rfl, _, rfl, a, dx2, _, rfl, ef2, rfl, a, wl, qs, at_ + 1, op, ts, rest, rfl, hrd2, hql, hpos1, hend, l2, fun t ht => hkids t (by rw [ek]; exact ht), by omega, fun H3 v at3 k3 hp3 hrd3 hv => ⟨lsz, fun p hp => fin H3 [v] _ (k2.trans k3) hp3 hrd3 (Reps.cons hv Reps.nil) p _ ((Same.refl _).new hp) upd_same⟩⟩
    rw [decide_eq_false e4]
    have eb : body = (args.map (argTk (gtk n))).flatten := by
      have : gtk (n + 1) (.tup (.str wd :: args)) = runT wd :: (args.map (argTk (gtk n))).flatten := by
        show runT wd :: (if wd = W "just" then _ else if wd = W "some" then _ else if wd = W "mix" then _ else if wd = W "all" then _ else _) = _
        rw [if_neg e1, if_neg e2, if_neg e3, if_neg e4]
      rw [this] at ebody
      exact (List.cons.inj ebody).2.symm
    rw [eb] at hpos1
    refine iteF ⟨_, rfl, rfl, _, rfl, ?_⟩
    rw [dstr wd "again"]
    by_cases e5 : wd = W "again"
    · rw [decide_eq_true e5]
      have hl1 : args.length + 1 = 1 := hl.trans (by rw [e5]; decide +kernel)
      obtain rfl : args = [] := List.eq_nil_of_length_eq_zero (by omega)
      exact iteT ⟨_, rfl, lsz, fun p hp => fin H2 [] _ k2 hpos1 hrd2 Reps.nil p _ ((Same.refl _).new hp) upd_same⟩
    · rw [decide_eq_false e5]
      refine iteF ⟨_, rfl, lsz, fun t ht => ⟨_, rfl, a, dx2, _, rfl, up_ne ef2 ht, rfl, _, rfl, a, wl, qs, at_ + 1, op, wd, args, rest, rfl, hrd2.same ((Same.refl _).new ht), hql, hpos1, hh, e1, e2, e3, e4, e5, hkids, by omega, fun H3 v at3 k3 hp3 hrd3 hv => ?_⟩⟩
      obtain ⟨b, xs, rfl, eb3, hxs⟩ := hv.tup_inv
      have et3 := k3 _ _ (Ne.symm (ne_of_none (ef2) ht)) upd_same
      have hlen : args.length ≤ 3 := by
        have : lenOf wd ≤ 4 := by
          unfold lenOf
          repeat' split
          all_goals omega
        omega
      refine ⟨t, b, [.str (S wd)], xs, rfl, rfl, et3, eb3, sizes' (by have := hxs.1; show 1 + xs.length ≤ _; omega), fun r H4 s4 er => ?_⟩
      exact fin H3 xs at3 (k2.trans ((Ka.of ((Same.refl _).new ht)).trans k3)) hp3 hrd3 hxs r H4 s4 er
abbrev s___init__ : Stmt := inClass (top 88) 0
abbrev N___init__ : List Str := ["self", "words"]
theorem sc___init__ : FnScope N___init__ ["self", "words"] (defScope s___init__) := ⟨rfl, rfl, rfl, by decide +kernel, rfl, by decide +kernel, by decide +kernel⟩
theorem cm_winit (F : Mf K C "__init__" "WordReader.__init__" s___init__ ["self", "words"]) (T : Tx mg) (R : Rdr K mg C) : Cm P w K mg base 1 C "__init__" (sp_winit C) := by
  refine F.cm sc___init__ (fun vs H Q E h => by obtain ⟨_, _, _, rfl, _⟩ := h; rfl) (fun f cdv A outer s H vs Q E hr h => ?_)
  have nd := sc___init__.nd
  obtain ⟨a, wl, dx, rfl, ea, k⟩ := h
  refine ⟨_, (pss_cons (ps_fld (pv 0) (pv 1) rfl)
    (pss_cons (ps_fld (pv 0) pe_int rfl)
    (pss_one (ps_fld (pv 0) pe_int rfl)))), ?_⟩
  exact ⟨_, rfl, _, rfl, a, C, dx, _, rfl, ea, R.c, R.nw, (by decide : 0 < 1000), _, rfl, a, C, dx, _, rfl, upd_same, R.c, R.na, (by decide : 1 < 1000), _, rfl, a, C, dx, _, rfl, upd_same, R.c, R.no, (by decide : 2 < 1000), k⟩
abbrev s_generator_at : Stmt := top 89
abbrev N_generator_at : List Str := ["words", "at", "opened", "reader", "found"]
theorem sc_generator_at : FnScope N_generator_at ["words", "at", "opened"] (defScope s_generator_at) := ⟨rfl, rfl, rfl, by decide +kernel, rfl, by decide +kernel, by decide +kernel⟩
theorem cl_generator_at (F : Df K mg "generator_at" s_generator_at ["words", "at", "opened"]) (T : Tx mg) (R : Rdr K mg C) (m_init : Cm P w K mg base 1 C "__init__" (sp_winit C)) {n k : Nat} (hk : 2 ≤ k) (m_generator : Cm P w K mg base k C "generator" (sp_gr C n)) : Cl P w K mg base (k + 1) "generator_at" (sp_gen_at n) := by
  refine F.cl sc_generator_at (fun vs H Q E h => by obtain ⟨_, _, _, rfl, _⟩ := h; rfl) (fun f cdv A outer s H vs Q E hr h => ?_)
  have nd := sc_generator_at.nd
  obtain ⟨wl, qs, d, rfl, hqs, hqd, hfk, hn, hql, k⟩ := h
  refine ⟨_, (pss_cons (pset 3 nd (pmk_wr R m_init hr (by omega) rfl (pa_cons (pv 0) pa_nil)))
    (pss_cons (ps_asg (pe_tup (pa_cons (pv 1) (pa_cons (pv 2) pa_nil))) (pg_tupK (n := 2) K rfl (pgs_cons (pg_fld (pv 3)) (pgs_cons (pg_fld (pv 3)) pgs_nil))))
    (pss_cons (pset 4 nd (pmeth0 R m_generator hr (by omega) (pv 3)))
    (pss_one (ps_ret (pe_tup (pa_cons (pv 4) (pa_cons (pe_fld (pv 3) rfl) pa_nil)))))))), ?_⟩
  refine ⟨_, rfl, fun a dx na nx nax => ⟨a, wl, dx, rfl, upd_same, rfl, ?_⟩⟩
  have nd1 : (upd H dx (.own a)) a = none := by rw [upd_ne (Ne.symm nax)]; exact na
  have s1 : Same H (upd (upd (upd (upd (upd H dx (.own a)) a (.ins C dx [])) a (.ins C dx [("words", .ref wl)])) a (.ins C dx [("words", .ref wl), ("at", .int 0)])) a (.ins C dx [("words", .ref wl), ("at", .int 0), ("opened", .int 0)])) := (((((Same.refl _).new nx).new nd1).put na).put na).put na
  have ea1 : (upd (upd (upd (upd (upd H dx (.own a)) a (.ins C dx [])) a (.ins C dx [("words", .ref wl)])) a (.ins C dx [("words", .ref wl), ("at", .int 0)])) a (.ins C dx [("words", .ref wl), ("at", .int 0), ("opened", .int 0)])) a = some (.ins C dx [("words", .ref wl), ("at", .int 0), ("opened", .int 0)]) := upd_same
  generalize (upd (upd (upd (upd (upd H dx (.own a)) a (.ins C dx [])) a (.ins C dx [("words", .ref wl)])) a (.ins C dx [("words", .ref wl), ("at", .int 0)])) a (.ins C dx [("words", .ref wl), ("at", .int 0), ("opened", .int 0)])) = H1 at *
  refine ⟨_, rfl, _, rfl, lsz, fun t ht => ⟨t, _, rfl, sqt upd_same, rfl, _, _, rfl, _, rfl, a, C, dx, _, rfl, up_ne ea1 ht, R.c, R.na, (by decide : 3 < 1000), _, [], rfl, _, rfl, a, C, dx, _, rfl, upd_same, R.c, R.no, (by decide : 3 < 1000), rfl, ?_⟩⟩
  have s2 : Same H (upd H1 t (.tup [.int 0, .int 0])) := s1.new ht
  have ea3 : (upd (upd (upd H1 t (.tup [.int 0, .int 0])) a (.ins C dx (putF "at" (.int 0) [("words", .ref wl), ("at", .int 0), ("opened", .int 0)]))) a (.ins C dx (putF "opened" (.int 0) (putF "at" (.int 0) [("words", .ref wl), ("at", .int 0), ("opened", .int 0)])))) a = some (.ins C dx [("words", .ref wl), ("at", .int ((0 : Nat) : Int)), ("opened", .int ((0 : Nat) : Int))]) := upd_same
  have s3 : Same H (upd (upd (upd H1 t (.tup [.int 0, .int 0])) a (.ins C dx (putF "at" (.int 0) [("words", .ref wl), ("at", .int 0), ("opened", .int 0)]))) a (.ins C dx (putF "opened" (.int 0) (putF "at" (.int 0) [("words", .ref wl), ("at", .int 0), ("opened", .int 0)])))) := (s2.put na).put na
  generalize (upd (upd (upd H1 t (.tup [.int 0, .int 0])) a (.ins C dx (putF "at" (.int 0) [("words", .ref wl), ("at", .int 0), ("opened", .int 0)]))) a (.ins C dx (putF "opened" (.int 0) (putF "at" (.int 0) [("words", .ref wl), ("at", .int 0), ("opened", .int 0)])))) = H3 at *
  have hw3 : ToksL H3 wl qs := by
    obtain ⟨xs, e, aq⟩ := hqs
    exact ⟨xs, s3 _ _ e, aq.mono fun v q r => r.gr (.of s3)⟩
  refine ⟨_, rfl, a, dx, _, rfl, ea3, rfl, a, wl, qs, 0, 0, d, [], rfl, ⟨⟨dx, ea3⟩, hw3⟩, hql, ⟨by rw [List.drop_zero, List.append_nil, hqd], Nat.zero_le _⟩, .inl rfl, hfk, by omega, fun H4 v at4 k4 hp4 hrd4 hv => ?_⟩
  obtain ⟨dx4, ea4⟩ := hrd4.f
  have e4 : at4 = qs.length := by
    have := congrArg List.length hp4.1
    rw [List.length_drop, List.length_nil] at this
    have := hp4.2
    omega
  subst e4
  refine ⟨_, rfl, _, rfl, a, C, dx4, _, _, rfl, ea4, R.c, R.na, rfl, lsz, fun p hp => ?_⟩
  have s4 : Same H H4 := fun b u e => k4 b u (ne_of_none e na) (s3 b u e)
  exact k _ p v (s4.new hp) upd_same (hv.same ((Same.refl _).new hp))
abbrev s_read_generator : Stmt := top 90
abbrev N_read_generator : List Str := ["text", "words", "found", "at"]
theorem sc_read_generator : FnScope N_read_generator ["text"] (defScope s_read_generator) := ⟨rfl, rfl, rfl, by decide +kernel, rfl, by decide +kernel, by decide +kernel⟩
theorem cl_read_generator {Cg : Addr} (F : Df K mg "read_generator" s_read_generator ["text"]) (T : Tx mg) (c_need_words : Cl P w K mg base 4 "need_words" sp_need_words) (c_generator_at : Cl P w K mg base 24 "generator_at" (sp_gen_at 6)) (c_need_generator : Cl P w K mg base 9 "need_generator" (sp_need_generator Cg)) : Cl P w K mg base 25 "read_generator" sp_read_gen := by
  refine F.cl sc_read_generator (fun vs H Q E h => by obtain ⟨_, _, rfl, _⟩ := h; rfl) (fun f cdv A outer s H vs Q E hr h => ?_)
  have nd := sc_read_generator.nd
  obtain ⟨t, d, rfl, ht, htk, hg, k⟩ := h
  refine ⟨_, (pss_cons (pset 1 nd (pf c_need_words hr (by omega) rfl (pa_cons (pv 0) pa_nil)))
    (pss_cons (ps_asg (pf c_generator_at hr (by omega) rfl (pa_cons (pv 1) (pa_cons pe_int (pa_cons pe_int pa_nil)))) (pg_tupK (n := 2) K rfl (pgs_cons (pgn 2 nd) (pgs_cons (pgn 3 nd) pgs_nil))))
    (pss_cons (ps_if (pt_cmpR op_lt (pv 3) (pe_callB (call_lenK K) rfl T.n_len PySem.boot_len (pa_cons (pv 1) pa_nil)) (nomark _)) (pss_one ps_never) pss_nil)
    (pss_one (ps_ret (pf c_need_generator hr (by omega) rfl (pa_cons (pv 2) pa_nil))))))), ?_⟩
  have hlen : (toks t).length ≤ 100000 := by
    have := tks_len (t.length + 1) (skip t)
    show (tks (t.length + 1) (skip t)).length ≤ _
    omega
  obtain ⟨hfk, _⟩ := gw_fok hg
  refine ⟨_, rfl, t, rfl, ht, fun H1 wl s1 _ hw => ⟨_, rfl, wl, toks t, d, rfl, hw, htk, hfk, by decide, hlen, fun H2 p v s2 ep hv => ⟨p, _, rfl, sqt ep, rfl, _, _, rfl, _, [], rfl, rfl, ?_⟩⟩⟩
  obtain ⟨xs, ew, aq⟩ := hw
  refine ⟨_, rfl, _, rfl, .ref wl, xs.length, rfl, .inl ⟨xs, sql (s2 _ _ ew), rfl⟩, _, _, rfl, rfl, _, rfl, ?_⟩
  rw [aq.1, decide_eq_false (show ¬ ((toks t).length : Int) < ((toks t).length : Int) by omega)]
  exact iteF ⟨_, rfl, v, d, rfl, hv, fun _ H3 s3 => k H3 v ((s1.trans s2).trans s3) (hv.same s3), fun way hway => by rw [hg] at hway; cases hway⟩
abbrev s_read_thing : Stmt := top 59
abbrev N_read_thing : List Str := ["text", "words", "thing", "at"]
theorem sc_read_thing : FnScope N_read_thing ["text"] (defScope s_read_thing) := ⟨rfl, rfl, rfl, by decide +kernel, rfl, by decide +kernel, by decide +kernel⟩
theorem cl_read_thing {Ct : Addr} (F : Df K mg "read_thing" s_read_thing ["text"]) (T : Tx mg) (c_need_words : Cl P w K mg base 4 "need_words" sp_need_words) (c_thing_in : Cl P w K mg base 2 "thing_in" sp_thing_in) (c_need_thing : Cl P w K mg base 4 "need_thing" (sp_need_thing Ct)) : Cl P w K mg base 5 "read_thing" sp_read_thing := by
  refine F.cl sc_read_thing (fun vs H Q E h => by obtain ⟨_, _, rfl, _⟩ := h; rfl) (fun f cdv A outer s H vs Q E hr h => ?_)
  have nd := sc_read_thing.nd
  obtain ⟨t, d, rfl, ht, htk, hg, k⟩ := h
  refine ⟨_, (pss_cons (pset 1 nd (pf c_need_words hr (by omega) rfl (pa_cons (pv 0) pa_nil)))
    (pss_cons (ps_asg (pf c_thing_in hr (by omega) rfl (pa_cons (pv 1) (pa_cons pe_int (pa_cons (C8.pe_gc rfl T.g_MOST_FIGURES_things) (pa_cons pe_int pa_nil))))) (pg_tupK (n := 2) K rfl (pgs_cons (pgn 2 nd) (pgs_cons (pgn 3 nd) pgs_nil))))
    (pss_cons (ps_if (pt_cmpR op_lt (pv 3) (pe_callB (call_lenK K) rfl T.n_len PySem.boot_len (pa_cons (pv 1) pa_nil)) (nomark _)) (pss_one ps_never) pss_nil)
    (pss_one (ps_ret (pf c_need_thing hr (by omega) rfl (pa_cons (pv 2) pa_nil))))))), ?_⟩
  have hlen : (toks t).length ≤ 100000 := by
    have := tks_len (t.length + 1) (skip t)
    show (tks (t.length + 1) (skip t)).length ≤ _
    omega
  obtain ⟨htok, _⟩ := fb_start.mp hg
  have hti : TI 60 (40 - 0) [] ((toks t).drop 0) d [] := by
    rw [List.drop_zero, htk]
    have := (ti_thing (fg := 60) (B := 40) (by decide) (by decide) 6 d htok).1 [] (by decide)
    rw [List.append_nil] at this
    exact this
  refine ⟨_, rfl, t, rfl, ht, fun H1 wl s1 _ hw => ⟨_, rfl, wl, toks t, 0, 60, 0, d, [], rfl, hw, hlen, by decide, by decide, by decide, hti, fun H2 p v s2 ep hv => ⟨p, _, rfl, sqt ep, rfl, _, _, rfl, _, [], rfl, rfl, ?_⟩⟩⟩
  obtain ⟨xs, ew, aq⟩ := hw
  refine ⟨_, rfl, _, rfl, .ref wl, xs.length, rfl, .inl ⟨xs, sql (s2 _ _ ew), rfl⟩, _, _, rfl, rfl, _, rfl, ?_⟩
  rw [aq.1, decide_eq_false (show ¬ (((toks t).length - ([] : List Tok2).length : Nat) : Int) < ((toks t).length : Int) by simp)]
  exact iteF ⟨_, rfl, v, d, rfl, hv, fun _ H3 s3 => k H3 v ((s1.trans s2).trans s3) (hv.same s3), fun way hway => by rw [hg] at hway; cases hway⟩
end
end K6
set_option maxHeartbeats 4000001
namespace K6
open L2 PySem PySem.Spec PyProof.Rows
inductive GoodT : Tok2 → Prop
  | run (s : List Nat) : s ≠ [] → (∀ c ∈ s, c ∈ smallL) → GoodT (W "run", s)
  | name (s : List Nat) : s ≠ [] → (∀ c ∈ s, c ∈ smallL) → GoodT (W "name", 35 :: s)
  | num (i : Int) : GoodT (W "number", numW i)
  | sign (c : Nat) : c ∈ sigL → GoodT (W "sign", [c])
def Stop : List Nat → Prop
  | [] => True
  | c :: _ => c = 32 ∨ c ∈ sigL
def bl (g : Nat) : List Nat := List.replicate g 32
theorem sig_no : ∀ c ∈ (32 :: sigL), c ∉ smallL ∧ c ∉ figL ∧ c ≠ 35 ∧ c ≠ 45 := by decide
theorem stop_hd {t : List Nat} (h : Stop t) (l : List Nat) (hl : ∀ c ∈ (32 :: sigL), c ∉ l) : ∀ s : List Nat, (∀ c ∈ s, c ∈ l) → run l (s ++ t) = s
  | [], _ => by
    cases t with
    | nil => rfl
    | cons c r =>
      have hc : c ∉ l := hl c (by rcases h with h | h; exact h ▸ List.mem_cons_self; exact List.mem_cons_of_mem _ h)
      show run l (c :: r) = []
      unfold run
      rw [List.takeWhile_cons, if_neg (by simpa using hc)]
  | c :: s, hs => by
    have hc := hs c List.mem_cons_self
    have ih := stop_hd h l hl s fun d hd => hs d (List.mem_cons_of_mem _ hd)
    unfold run at ih ⊢
    rw [List.cons_append, List.takeWhile_cons, if_pos (by simpa using hc), ih]
theorem fig_mem {c : Nat} : c ∈ figL ↔ 48 ≤ c ∧ c ≤ 57 := by
  constructor
  · intro h
    simp [figL] at h
    omega
  · rintro ⟨h1, h2⟩
    obtain ⟨k, rfl⟩ : ∃ k, c = 48 + k := ⟨c - 48, by omega⟩
    have key : ∀ k : Fin 10, 48 + k.val ∈ figL := by decide
    exact key ⟨k, by omega⟩
theorem small_fig {c : Nat} (h : c ∈ figL) : c ∉ smallL := fun z => by
  rw [fig_mem] at h
  rw [mem_small] at z
  omega
theorem good_head {q : Tok2} (h : GoodT q) : ∃ c r, q.2 = c :: r ∧ c ≠ 32 ∧ (q.1 ≠ W "sign" → c ∉ sigL) ∧ (q.1 = W "sign" → c ∈ sigL) := by
  have nrs : W "run" ≠ W "sign" := by decide +kernel
  have nns : W "name" ≠ W "sign" := by decide +kernel
  have nus : W "number" ≠ W "sign" := by decide +kernel
  have low : ∀ c ∈ smallL, c ≠ 32 ∧ c ∉ sigL := by decide
  have fig : ∀ c ∈ figL, c ≠ 32 ∧ c ∉ sigL := by decide
  cases h with
  | run s hs hl =>
    cases s with
    | nil => exact absurd rfl hs
    | cons c r => exact ⟨c, r, rfl, (low c (hl c List.mem_cons_self)).1, fun _ => (low c (hl c List.mem_cons_self)).2, fun z => absurd z nrs⟩
  | name s hs hl => exact ⟨35, s, rfl, by decide, fun _ => by decide, fun z => absurd z nns⟩
  | num i =>
    cases i with
    | ofNat n =>
      cases e : TL.numL n with
      | nil => exact absurd e (TL.numL_ne n)
      | cons c r =>
        have hc : c ∈ figL := fig_mem.mpr (TL.numL_digits n c (by rw [e]; exact List.mem_cons_self))
        exact ⟨c, r, e, (fig c hc).1, fun _ => (fig c hc).2, fun z => absurd z nus⟩
    | negSucc n => exact ⟨45, TL.numL (n + 1), rfl, by decide, fun _ => by decide, fun z => absurd z nus⟩
  | sign c hc => exact ⟨c, [], rfl, fun z => by subst z; revert hc; decide, fun z => absurd rfl z, fun _ => hc⟩
theorem wrd_good {q : Tok2} (h : GoodT q) {t : List Nat} (hs : q.1 = W "sign" ∨ Stop t) : wrd (q.2 ++ t) = q ∧ q.1 ≠ W "odd" := by
  have nrs : W "run" ≠ W "sign" := by decide +kernel
  have nns : W "name" ≠ W "sign" := by decide +kernel
  have nus : W "number" ≠ W "sign" := by decide +kernel
  cases h with
  | run s hne hl =>
    have ht : Stop t := by rcases hs with h | h; exact absurd h nrs; exact h
    refine ⟨?_, (show W "run" ≠ W "odd" by decide +kernel)⟩
    cases s with
    | nil => exact absurd rfl hne
    | cons c r =>
      show wrd (c :: (r ++ t)) = _
      rw [wrd_cons, if_pos (hl c List.mem_cons_self)]
      have := stop_hd ht smallL (fun c hc => (sig_no c hc).1) (c :: r) hl
      rw [List.cons_append] at this
      rw [this]
  | name s hne hl =>
    have ht : Stop t := by rcases hs with h | h; exact absurd h nns; exact h
    refine ⟨?_, (show W "name" ≠ W "odd" by decide +kernel)⟩
    show wrd (35 :: (s ++ t)) = _
    rw [wrd_cons, if_neg (by decide)]
    have hh : hdIn smallL (s ++ t) = true := by
      cases s with
      | nil => exact absurd rfl hne
      | cons c r => exact decide_eq_true (hl c List.mem_cons_self)
    rw [if_pos ⟨rfl, hh⟩, stop_hd ht smallL (fun c hc => (sig_no c hc).1) s hl]
  | num i =>
    have ht : Stop t := by rcases hs with h | h; exact absurd h nus; exact h
    refine ⟨?_, (show W "number" ≠ W "odd" by decide +kernel)⟩
    have dig : ∀ n, ∀ c ∈ TL.numL n, c ∈ figL := fun n c hc => fig_mem.mpr (TL.numL_digits n c hc)
    cases i with
    | ofNat n =>
      show wrd (TL.numL n ++ t) = (W "number", TL.numL n)
      cases e : TL.numL n with
      | nil => exact absurd e (TL.numL_ne n)
      | cons c r =>
        have hd := dig n
        rw [e] at hd
        have hc := hd c List.mem_cons_self
        rw [List.cons_append, wrd_cons, if_neg (small_fig hc), if_neg (by rintro ⟨z, _⟩; rw [fig_mem] at hc; omega), if_pos (.inl hc), stop_hd ht figL (fun c hc => (sig_no c hc).2.1) r fun d hd' => hd d (List.mem_cons_of_mem _ hd')]
    | negSucc n =>
      show wrd (45 :: (TL.numL (n + 1) ++ t)) = (W "number", 45 :: TL.numL (n + 1))
      have hh : hdIn figL (TL.numL (n + 1) ++ t) = true := by
        cases e : TL.numL (n + 1) with
        | nil => exact absurd e (TL.numL_ne _)
        | cons c r => exact decide_eq_true (dig (n + 1) c (by rw [e]; exact List.mem_cons_self))
      rw [wrd_cons, if_neg (by decide), if_neg (by rintro ⟨z, _⟩; cases z), if_pos (.inr ⟨rfl, hh⟩), stop_hd ht figL (fun c hc => (sig_no c hc).2.1) _ (dig (n + 1))]
  | sign c hc =>
    refine ⟨?_, (show W "sign" ≠ W "odd" by decide +kernel)⟩
    obtain ⟨h1, h2, h3, h4⟩ := sig_no c (List.mem_cons_of_mem _ hc)
    show wrd (c :: t) = _
    rw [wrd_cons, if_neg h1, if_neg (fun z => h3 z.1), if_neg (by rintro (z | z); exact h2 z; exact h4 z.1), if_pos hc]
inductive Gap : List Tok2 → List Nat → Prop
  | nil (g : Nat) : Gap [] (bl g)
  | cons (g : Nat) {q : Tok2} {l : List Tok2} {t : List Nat} : GoodT q → Gap l t → (q.1 = W "sign" ∨ Stop t) → Gap (q :: l) (bl g ++ (q.2 ++ t))
theorem skip_bl (g : Nat) {t : List Nat} (h : ∀ c r, t = c :: r → c ≠ 32) : skip (bl g ++ t) = t := by
  unfold skip bl
  induction g with
  | zero =>
    show List.dropWhile _ t = t
    cases t with
    | nil => rfl
    | cons c r => rw [List.dropWhile_cons, if_neg (by simpa using h c r rfl)]
  | succ g ih =>
    rw [List.replicate_succ, List.cons_append, List.dropWhile_cons, if_pos (by decide)]
    exact ih
theorem tks_gap {l : List Tok2} {t : List Nat} (h : Gap l t) : ∀ n, (skip t).length < n → tks n (skip t) = l := by
  induction h with
  | nil g =>
    intro n hn
    have := skip_bl g (t := []) (fun c r e => by cases e)
    rw [List.append_nil] at this
    rw [this]
    cases n <;> rfl
  | @cons g q l t hq _ hc ih =>
    intro n hn
    obtain ⟨c, r, e, h32, _⟩ := good_head hq
    have hsk : skip (bl g ++ (q.2 ++ t)) = q.2 ++ t := skip_bl g fun c' r' e' => by
      rw [e] at e'
      rw [← (List.cons.inj e').1]
      exact h32
    rw [hsk] at hn ⊢
    obtain ⟨hw, ho⟩ := wrd_good hq hc
    rw [e] at hw hn ⊢
    (obtain ⟨n, rfl⟩ : ∃ m, n = m + 1 := ⟨n - 1, by omega⟩)
    have hstep : tks (n + 1) ((c :: r) ++ t) = wrd (c :: (r ++ t)) :: (if (wrd (c :: (r ++ t))).1 = W "odd" then [] else tks n (skip ((c :: (r ++ t)).drop (wrd (c :: (r ++ t))).2.length))) := rfl
    have hw' : wrd (c :: (r ++ t)) = q := hw
    rw [hstep, hw', if_neg ho, e]
    have hd : (c :: (r ++ t)).drop (c :: r).length = t := List.drop_left (l₁ := c :: r)
    rw [hd]
    congr 1
    refine ih n ?_
    have := skip_le t
    rw [List.length_append, List.length_cons] at hn
    omega
theorem toks_gap {l : List Tok2} {t : List Nat} (h : Gap l t) : toks t = l := tks_gap h _ (by have := skip_le t; omega)
theorem bl_add (a b : Nat) : bl a ++ bl b = bl (a + b) := List.replicate_append_replicate
theorem gap_snoc {l : List Tok2} {t : List Nat} (h : Gap l t) {q : Tok2} (hq : GoodT q) {g : Nat} : (1 ≤ g ∨ t = [] ∨ t.getLastD 0 ∈ (32 :: sigL) ∨ q.1 = W "sign") → Gap (l ++ [q]) (t ++ (bl g ++ q.2)) := by
  induction h with
  | nil k =>
    intro _
    have := Gap.cons (k + g) hq (Gap.nil 0) (.inr trivial)
    rw [← bl_add, show bl 0 = [] from rfl, List.append_nil, List.append_assoc] at this
    exact this
  | @cons k q0 l0 t0 h0 hg hc ih =>
    intro hcond
    obtain ⟨c0, r0, e0, h32, hns, _⟩ := good_head h0
    have hassoc : bl k ++ (q0.2 ++ t0) ++ (bl g ++ q.2) = bl k ++ (q0.2 ++ (t0 ++ (bl g ++ q.2))) := by rw [List.append_assoc, List.append_assoc]
    rw [hassoc]
    obtain ⟨cq, rq, eq, hq32, _, hqs⟩ := good_head hq
    have hstop : 1 ≤ g ∨ q.1 = W "sign" → Stop (bl g ++ q.2) := fun hh => by
      cases g with
      | zero =>
        rcases hh with hh | hh
        · omega
        · show Stop q.2
          rw [eq]
          exact .inr (hqs hh)
      | succ g => exact .inl rfl
    by_cases ht0 : t0 = []
    · subst ht0
      have hc2 : q0.1 = W "sign" ∨ Stop (bl g ++ q.2) := by
        by_cases hs : q0.1 = W "sign"
        · exact .inl hs
        · refine .inr (hstop ?_)
          rcases hcond with h | h | h | h
          · exact .inl h
          · rw [e0] at h
            simp at h
          · exfalso
            rw [List.append_nil] at h
            have hlast : (bl k ++ q0.2).getLastD 0 ∈ q0.2 := by
              rw [List.getLastD_eq_getLast?, List.getLast?_append]
              have hne : q0.2 ≠ [] := by rw [e0]; exact List.cons_ne_nil _ _
              rw [List.getLast?_eq_some_getLast hne]
              exact List.getLast_mem hne
            have key : ∀ c ∈ q0.2, c ∉ (32 :: sigL) := by
              cases h0 with
              | run s _ hl => exact fun c hc z => (sig_no c z).1 (hl c hc)
              | name s _ hl =>
                intro c hc z
                (rcases List.mem_cons.mp hc with e | hc)
                · exact (sig_no c z).2.2.1 e
                · exact (sig_no c z).1 (hl c hc)
              | num i =>
                intro c hc z
                have : c = 45 ∨ c ∈ figL := by
                  cases i with
                  | ofNat n => exact .inr (fig_mem.mpr (TL.numL_digits n c hc))
                  | negSucc n =>
                    rcases List.mem_cons.mp (show c ∈ 45 :: TL.numL (n + 1) from hc) with e | hc
                    · exact .inl e
                    · exact .inr (fig_mem.mpr (TL.numL_digits _ c hc))
                rcases this with e | e
                · exact (sig_no c z).2.2.2 e
                · exact (sig_no c z).2.1 e
              | sign c _ => exact absurd rfl hs
            exact key _ hlast h
          · exact .inr h
      exact Gap.cons k h0 (ih (.inr (.inl rfl))) hc2
    · have hcond2 : 1 ≤ g ∨ t0 = [] ∨ t0.getLastD 0 ∈ (32 :: sigL) ∨ q.1 = W "sign" := by
        rcases hcond with h | h | h | h
        · exact .inl h
        · rw [e0] at h
          simp at h
        · refine .inr (.inr (.inl ?_))
          rw [List.getLastD_eq_getLast?, List.getLast?_append, List.getLast?_append, List.getLast?_eq_some_getLast ht0] at h
          rw [List.getLastD_eq_getLast?, List.getLast?_eq_some_getLast ht0]
          exact h
        · exact .inr (.inr (.inr h))
      refine Gap.cons k h0 (ih hcond2) ?_
      rcases hc with hc | hc
      · exact .inl hc
      · refine .inr ?_
        cases t0 with
        | nil => exact absurd rfl ht0
        | cons c r => exact hc
theorem gap_sprd : ∀ {l : List Tok2}, (∀ q ∈ l, GoodT q) → Gap l (sprd (l.map (·.2))) := by
  intro l
  have key : ∀ (l l0 : List Tok2) (t : List Nat), Gap l0 t → (∀ q ∈ l, GoodT q) → Gap (l0 ++ l) ((l.map (·.2)).foldl sprd1 t) := by
    intro l
    induction l with
    | nil => intro l0 t h _; rw [List.append_nil]; exact h
    | cons q r ih =>
      intro l0 t h hl
      have hq := hl q List.mem_cons_self
      have h1 : Gap (l0 ++ [q]) (sprd1 t q.2) := by
        unfold sprd1
        cases e : gapS t q.2 with
        | false =>
          (rw [if_neg Bool.false_ne_true])
          exact gap_snoc h hq (g := 1) (.inl (Nat.le_refl _))
        | true =>
          rw [if_pos rfl]
          refine gap_snoc h hq (g := 0) ?_
          unfold gapS at e
          rw [Bool.or_eq_true, Bool.or_eq_true] at e
          rcases e with e | e | e
          · exact .inr (.inl (List.isEmpty_iff.mp e))
          · refine .inr (.inr (.inl ?_))
            have := of_decide_eq_true e
            have sub : ∀ c ∈ ([40, 91] : List Nat), c ∈ (32 :: sigL) := by decide
            exact sub _ this
          · refine .inr (.inr (.inr ?_))
            obtain ⟨c, r', ec, _, hns, _⟩ := good_head hq
            by_cases hs : q.1 = W "sign"
            · exact hs
            · exfalso
              rw [ec] at e
              have hc := hns hs
              have : c ∉ ([41, 93] : List Nat) := fun z => hc (by
                have sub : ∀ c ∈ ([41, 93] : List Nat), c ∈ sigL := by decide
                exact sub _ z)
              rw [inT_head this] at e
              cases e
      have := ih (l0 ++ [q]) (sprd1 t q.2) h1 fun q hq => hl q (List.mem_cons_of_mem _ hq)
      (rw [List.append_assoc] at this)
      exact this
  intro hl
  have := key l [] [] (Gap.nil 0) hl
  exact this
theorem nm_good {s : List Nat} (h : isNm s = true) : s ≠ [] ∧ ∀ c ∈ s, c ∈ smallL := by
  have h2 : (decide (1 ≤ s.length) && (decide (s.length ≤ 8) && s.all fun c => decide (c ∈ smallL))) = true := h
  rw [Bool.and_eq_true, Bool.and_eq_true, decide_eq_true_eq, List.all_eq_true] at h2
  exact ⟨fun z => by rw [z] at h2; simp at h2, fun c hc => of_decide_eq_true (h2.2.2 c hc)⟩
theorem ttk_good {b : Int} : ∀ (n : Nat) (d : D), tok (gd b) n d = true → ∀ q ∈ ttk n d, GoodT q
  | 0, d, h, q, hq => by cases hq
  | n + 1, .tup ds, h, q, hq => by
    have h2 : (true && ds.all (tok (gd b) n)) = true := h
    rw [Bool.true_and, List.all_eq_true] at h2
    rcases List.mem_cons.mp (show q ∈ sgT 91 :: ((ds.map (ttk n)).flatten ++ [sgT 93]) from hq) with e | hq
    · rw [e]
      exact .sign 91 (by decide)
    · (rcases List.mem_append.mp hq with hq | hq)
      · obtain ⟨l, hl, hq⟩ := List.mem_flatten.mp hq
        obtain ⟨d, hd, rfl⟩ := List.mem_map.mp hl
        exact ttk_good n d (h2 d hd) q hq
      · (rw [List.mem_singleton] at hq)
        rw [hq]
        exact .sign 93 (by decide)
  | n + 1, .int i, h, q, hq => by
    rw [List.mem_singleton.mp (show q ∈ [(W "number", numW i)] from hq)]
    exact .num i
  | n + 1, .str s, h, q, hq => by
    rw [List.mem_singleton.mp (show q ∈ [(W "name", 35 :: s)] from hq)]
    obtain ⟨h1, h2⟩ := nm_good (show isNm s = true from h)
    exact .name s h1 h2
  | n + 1, .bl _, h, q, hq => by cases hq
  | n + 1, .non, h, q, hq => by cases hq
  | n + 1, .oth, h, q, hq => by cases hq
theorem words_good : ∀ w ∈ ((["just", "some", "from", "mix", "all", "row", "turn", "keep", "let", "var", "upto", "times", "grow", "again"] : List String).map W) ++ turnW ++ testW, w ≠ [] ∧ ∀ c ∈ w, c ∈ smallL := by decide +kernel
theorem hf_mem {w : List Nat} {args : List D} (h : hf (.tup (.str w :: args)) = true) : w ∈ (["just", "some", "from", "mix", "all", "row", "turn", "keep", "let", "var", "upto", "times", "grow", "again"] : List String).map W := by
  have h2 := hf_inv h
  generalize he : D.tup (.str w :: args) = d at h2
  have go : ∀ {s : String} {as : List D}, D.tup (.str w :: args) = gnD s as → w = W s := fun {s as} e => by
    injection e with e
    injection e with e1 e2
    injection e1 with e1
  cases h2 <;> (rw [go he]; decide +kernel)
theorem hf_argsG {w : List Nat} {args : List D} (hl : args.length + 1 = lenOf w) (hw : hfW w args = true) (n1 : w ≠ W "just") (n2 : w ≠ W "some") (n3 : w ≠ W "mix") (n4 : w ≠ W "all") :
    ∀ a ∈ args, (∃ i, a = .int i) ∨ (∃ s, a = .str s ∧ s ≠ [] ∧ ∀ c ∈ s, c ∈ smallL) ∨ a ∈ kidsG (.tup (.str w :: args)) := by
  have h := hf_inv (show hf (.tup (.str w :: args)) = true by show (decide _ && _) = true; rw [decide_eq_true hl, hw]; rfl)
  generalize e : D.tup (.str w :: args) = d at h
  have go : ∀ {s : String} {as : List D}, D.tup (.str w :: args) = gnD s as → w = W s ∧ args = as := fun {s as} e => by
    injection e with e
    injection e with e1 e2
    injection e1 with e1
    exact ⟨e1, e2⟩
  have tw' : ∀ x ∈ turnW, x ≠ [] ∧ ∀ c ∈ x, c ∈ smallL := fun x hx => words_good x (List.mem_append_left _ (List.mem_append_right _ hx))
  have ts' : ∀ x ∈ testW, x ≠ [] ∧ ∀ c ∈ x, c ∈ smallL := fun x hx => words_good x (List.mem_append_right _ hx)
  intro a ha
  cases h with
  | just t h => exact absurd (go e).1 n1
  | some ts h1 h2 h => exact absurd (go e).1 n2
  | mix ps h1 h2 h => exact absurd (go e).1 n3
  | all ds h => exact absurd (go e).1 n4
  | «from» i j h =>
    obtain ⟨_, rfl⟩ := go e
    simp only [List.mem_cons, List.not_mem_nil, or_false] at ha
    rcases ha with rfl | rfl
    · exact .inl ⟨_, rfl⟩
    · exact .inl ⟨_, rfl⟩
  | row i j d h1 h2 h3 =>
    obtain ⟨_, rfl⟩ := go e
    simp only [List.mem_cons, List.not_mem_nil, or_false] at ha
    (rcases ha with rfl | rfl | rfl)
    · exact .inl ⟨_, rfl⟩
    · exact .inl ⟨_, rfl⟩
    · exact .inr (.inr (List.mem_singleton.mpr rfl))
  | turn x d h =>
    obtain ⟨_, rfl⟩ := go e
    simp only [List.mem_cons, List.not_mem_nil, or_false] at ha
    rcases ha with rfl | rfl
    · exact .inr (.inl ⟨_, rfl, tw' x h⟩)
    · exact .inr (.inr (List.mem_singleton.mpr rfl))
  | keep x n d h h1 h2 =>
    obtain ⟨_, rfl⟩ := go e
    simp only [List.mem_cons, List.not_mem_nil, or_false] at ha
    (rcases ha with rfl | rfl | rfl)
    · exact .inr (.inl ⟨_, rfl, ts' x h⟩)
    · exact .inl ⟨_, rfl⟩
    · exact .inr (.inr (List.mem_singleton.mpr rfl))
  | «let» x c d h =>
    obtain ⟨_, rfl⟩ := go e
    simp only [List.mem_cons, List.not_mem_nil, or_false] at ha
    (rcases ha with rfl | rfl | rfl)
    · exact .inr (.inl ⟨_, rfl, nm_good h⟩)
    · exact .inr (.inr (List.mem_cons_self))
    · exact .inr (.inr (List.mem_cons_of_mem _ List.mem_cons_self))
  | var x h =>
    obtain ⟨_, rfl⟩ := go e
    simp only [List.mem_cons, List.not_mem_nil, or_false] at ha
    subst ha
    exact .inr (.inl ⟨_, rfl, nm_good h⟩)
  | upto x h =>
    obtain ⟨_, rfl⟩ := go e
    simp only [List.mem_cons, List.not_mem_nil, or_false] at ha
    subst ha
    exact .inr (.inl ⟨_, rfl, nm_good h⟩)
  | times x d h =>
    obtain ⟨_, rfl⟩ := go e
    simp only [List.mem_cons, List.not_mem_nil, or_false] at ha
    rcases ha with rfl | rfl
    · exact .inr (.inl ⟨_, rfl, nm_good h⟩)
    · exact .inr (.inr (List.mem_singleton.mpr rfl))
  | grow n c d h1 h2 =>
    obtain ⟨_, rfl⟩ := go e
    simp only [List.mem_cons, List.not_mem_nil, or_false] at ha
    (rcases ha with rfl | rfl | rfl)
    · exact .inl ⟨_, rfl⟩
    · exact .inr (.inr (List.mem_cons_self))
    · exact .inr (.inr (List.mem_cons_of_mem _ List.mem_cons_self))
  | again =>
    obtain ⟨_, rfl⟩ := go e
    cases ha
theorem gin_good {n : Nat} {d : D} (h : ∀ q ∈ gtk n d, GoodT q) : ∀ q ∈ ginT (gtk n) d, GoodT q := fun q hq => by
  rcases List.mem_cons.mp (show q ∈ sgT 40 :: (gtk n d ++ [sgT 41]) from hq) with e | hq
  · rw [e]
    exact .sign 40 (by decide)
  · (rcases List.mem_append.mp hq with hq | hq)
    · exact h q hq
    · (rw [List.mem_singleton] at hq)
      rw [hq]
      exact .sign 41 (by decide)
theorem gtk_good : ∀ (n : Nat) (d : D), fok n d = true → ∀ q ∈ gtk n d, GoodT q
  | 0, d, h, q, hq => by cases hq
  | n + 1, d, h, q, hq => by
    obtain ⟨w, args, rfl, hl, hw⟩ := hf_split (fok_hf h)
    have hh := fok_hf h
    have hk := fok_kids h
    have hkg : ∀ t ∈ kidsG (.tup (.str w :: args)), ∀ q ∈ ginT (gtk n) t, GoodT q := fun t ht => gin_good (gtk_good n t (hk t ht))
    have hwd : GoodT (runT w) := by
      have hm := hf_mem hh
      obtain ⟨h1, h2⟩ := words_good w (List.mem_append_left _ (List.mem_append_left _ hm))
      exact .run w h1 h2
    rcases List.mem_cons.mp (show q ∈ runT w :: (if w = W "just" then _ else if w = W "some" then _ else if w = W "mix" then _ else if w = W "all" then _ else _ : List Tok2) from hq) with e | hq
    · rw [e]
      exact hwd
    by_cases e1 : w = W "just"
    · rw [if_pos e1] at hq
      obtain ⟨t, rfl⟩ := len_one (hl.trans (by rw [e1]; decide +kernel))
      have ho : own t = true := by subst e1; exact hw
      exact ttk_good 6 t (own_words ho).1 q hq
    rw [if_neg e1] at hq
    by_cases e2 : w = W "some"
    · rw [if_pos e2] at hq
      obtain ⟨t, rfl⟩ := len_one (hl.trans (by rw [e2]; decide +kernel))
      have hso : somesOk t = true := by subst e2; exact hw
      cases t with
      | tup ds =>
        rw [somesOk_tup, Bool.and_eq_true, List.all_eq_true] at hso
        obtain ⟨l, hl2, hq⟩ := List.mem_flatten.mp hq
        obtain ⟨t, ht, rfl⟩ := List.mem_map.mp hl2
        exact ttk_good 6 t (own_words (hso.2 t ht)).1 q hq
      | _ => cases hso
    rw [if_neg e2] at hq
    by_cases e3 : w = W "mix"
    · rw [if_pos e3] at hq
      obtain ⟨ps, rfl, l1, l2, hps⟩ : ∃ ps : List (Int × D), args = [.tup (ps.map fun p => .tup [.int p.1, p.2])] ∧ 1 ≤ ps.length ∧ ps.length ≤ 6 ∧ ∀ p ∈ ps, 1 ≤ p.1 ∧ p.1 ≤ 9 := by subst e3; exact hf_mix hl hw
      have ek : kidsG (.tup (.str w :: [.tup (ps.map fun p => .tup [.int p.1, p.2])])) = ps.map (·.2) := by
        subst e3
        show ((ps.map fun p => D.tup [.int p.1, p.2]).map sndD) = _
        rw [List.map_map]
        rfl
      obtain ⟨l, hl2, hq⟩ := List.mem_flatten.mp hq
      obtain ⟨t, ht, rfl⟩ := List.mem_map.mp hl2
      obtain ⟨p, hp, rfl⟩ := List.mem_map.mp (show t ∈ ps.map fun p => D.tup [.int p.1, p.2] from ht)
      rcases List.mem_cons.mp hq with e | hq
      · rw [e]
        exact .num _
      · exact hkg p.2 (by rw [ek]; exact List.mem_map.mpr ⟨p, hp, rfl⟩) q hq
    rw [if_neg e3] at hq
    by_cases e4 : w = W "all"
    · rw [if_pos e4] at hq
      obtain ⟨ts, rfl, l2⟩ : ∃ ds : List D, args = [.tup ds] ∧ ds.length ≤ 6 := by subst e4; exact hf_all hl hw
      have ek : kidsG (.tup (.str w :: [.tup ts])) = ts := by subst e4; rfl
      obtain ⟨l, hl2, hq⟩ := List.mem_flatten.mp hq
      obtain ⟨t, ht, rfl⟩ := List.mem_map.mp hl2
      exact hkg t (by rw [ek]; exact ht) q hq
    rw [if_neg e4] at hq
    obtain ⟨l, hl2, hq⟩ := List.mem_flatten.mp hq
    obtain ⟨t, ht, rfl⟩ := List.mem_map.mp hl2
    rcases hf_argsG hl hw e1 e2 e3 e4 t ht with ⟨i, rfl⟩ | ⟨s, rfl, h1, h2⟩ | hkt
    · rw [List.mem_singleton.mp (show q ∈ [numT i] from hq)]
      exact .num i
    · rw [List.mem_singleton.mp (show q ∈ [runT s] from hq)]
      exact .run s h1 h2
    · rw [argTk_kid (fok_hf (hk t hkt))] at hq
      exact hkg t hkt q hq
end K6
set_option maxHeartbeats 4000001
namespace K6
open L2 PySem PySem.Spec PyProof.Rows
theorem leaf_sort {fg : Nat} {q : Tok2} {d : D} (h : LeafT fg q d) : q.1 ≠ W "sign" := by
  rcases h with ⟨i, rfl, _⟩ | ⟨s, rfl, _⟩
  · show W "number" ≠ _; decide +kernel
  · show W "name" ≠ _; decide +kernel
theorem sg_ne : ([91] : List Nat) ≠ [93] := by decide
theorem ti_one {fg B : Nat} {rows : List (List D)} {qs r1 : List Tok2} {d1 : D} (h : TI fg B rows qs d1 r1) : ∀ {d2 r2}, TI fg B rows qs d2 r2 → d1 = d2 ∧ r1 = r2 := by
  induction h with
  | leaf0 h =>
    intro d2 r2 h'
    cases h' with
    | leaf0 h2 => exact ⟨leaf_one h h2, rfl⟩
    | opn _ _ => exact absurd rfl (leaf_sort h)
  | leaf h _ ih =>
    intro d2 r2 h'
    cases h' with
    | leaf h2 h3 =>
      rw [leaf_one h h2] at ih
      exact ih h3
    | opn _ _ => exact absurd rfl (leaf_sort h)
    | cls0 => exact absurd rfl (leaf_sort h)
    | cls _ => exact absurd rfl (leaf_sort h)
  | opn _ _ ih =>
    intro d2 r2 h'
    cases h' with
    | leaf0 h2 => exact absurd rfl (leaf_sort h2)
    | leaf h2 _ => exact absurd rfl (leaf_sort h2)
    | opn _ h3 => exact ih h3
  | cls0 =>
    intro d2 r2 h'
    cases h' with
    | leaf h2 _ => exact absurd rfl (leaf_sort h2)
    | cls0 => exact ⟨rfl, rfl⟩
  | cls _ ih =>
    intro d2 r2 h'
    cases h' with
    | leaf h2 _ => exact absurd rfl (leaf_sort h2)
    | cls h3 => exact ih h3
theorem ttk_inj {d1 d2 : D} {r1 r2 : List Tok2} (h1 : tok (gd (10 ^ 60)) 6 d1 = true) (h2 : tok (gd (10 ^ 60)) 6 d2 = true) (e : ttk 6 d1 ++ r1 = ttk 6 d2 ++ r2) : d1 = d2 ∧ r1 = r2 := by
  have t1 := (ti_thing (fg := 60) (B := 40) (by decide) (by decide) 6 d1 h1).1 r1 (by decide)
  have t2 := (ti_thing (fg := 60) (B := 40) (by decide) (by decide) 6 d2 h2).1 r2 (by decide)
  rw [e] at t1
  exact ti_one t1 t2
theorem end_head {r : List Tok2} (h : EndR r) {q : Tok2} {t : List Tok2} (e : r = q :: t) : q = sgT 41 := by
  rcases h with rfl | ⟨r', rfl⟩
  · cases e
  · exact (List.cons.inj e).1.symm
theorem some_inj : ∀ {ts1 ts2 : List D} {r1 r2 : List Tok2}, (∀ t ∈ ts1, own t = true) → (∀ t ∈ ts2, own t = true) → EndR r1 → EndR r2 → (ts1.map (ttk 6)).flatten ++ r1 = (ts2.map (ttk 6)).flatten ++ r2 → ts1 = ts2 ∧ r1 = r2
  | [], [], r1, r2, _, _, _, _, e => ⟨rfl, e⟩
  | [], t :: ts, r1, r2, _, h2, e1, _, e => by
    exfalso
    obtain ⟨q, r, eq, hq⟩ := ttk_head (own_words (h2 t List.mem_cons_self)).1
    have e : r1 = (ttk 6 t ++ (ts.map (ttk 6)).flatten) ++ r2 := e
    rw [eq] at e
    have := end_head e1 e
    subst this
    rcases hq with h | h | h
    · revert h; show W "sign" ≠ _; decide +kernel
    · revert h; show W "sign" ≠ _; decide +kernel
    · revert h; decide
  | t :: ts, [], r1, r2, h1, _, _, e2, e => by
    exfalso
    obtain ⟨q, r, eq, hq⟩ := ttk_head (own_words (h1 t List.mem_cons_self)).1
    have e : (ttk 6 t ++ (ts.map (ttk 6)).flatten) ++ r1 = r2 := e
    rw [eq] at e
    have := end_head e2 e.symm
    subst this
    rcases hq with h | h | h
    · revert h; show W "sign" ≠ _; decide +kernel
    · revert h; show W "sign" ≠ _; decide +kernel
    · revert h; decide
  | t1 :: ts1, t2 :: ts2, r1, r2, h1, h2, e1, e2, e => by
    have e : (ttk 6 t1 ++ (ts1.map (ttk 6)).flatten) ++ r1 = (ttk 6 t2 ++ (ts2.map (ttk 6)).flatten) ++ r2 := e
    (rw [List.append_assoc, List.append_assoc] at e)
    obtain ⟨rfl, e3⟩ := ttk_inj (own_words (h1 t1 List.mem_cons_self)).2.1 (own_words (h2 t2 List.mem_cons_self)).2.1 e
    obtain ⟨rfl, e4⟩ := some_inj (fun t ht => h1 t (List.mem_cons_of_mem _ ht)) (fun t ht => h2 t (List.mem_cons_of_mem _ ht)) e1 e2 e3
    exact ⟨rfl, e4⟩
def ArgN (n : Nat) (a : D) : Prop := (∃ i, a = .int i) ∨ (∃ s, a = .str s) ∨ fok n a = true
section
variable {n : Nat} (hg : ∀ d1 d2 r1 r2, fok n d1 = true → fok n d2 = true → EndR r1 → EndR r2 → gtk n d1 ++ r1 = gtk n d2 ++ r2 → d1 = d2 ∧ r1 = r2)
include hg
theorem gin_inj {d1 d2 : D} {r1 r2 : List Tok2} (h1 : fok n d1 = true) (h2 : fok n d2 = true) (e : ginT (gtk n) d1 ++ r1 = ginT (gtk n) d2 ++ r2) : d1 = d2 ∧ r1 = r2 := by
  have e : sgT 40 :: ((gtk n d1 ++ [sgT 41]) ++ r1) = sgT 40 :: ((gtk n d2 ++ [sgT 41]) ++ r2) := e
  have e2 := (List.cons.inj e).2
  rw [List.append_assoc, List.append_assoc] at e2
  obtain ⟨rfl, e3⟩ := hg d1 d2 (sgT 41 :: r1) (sgT 41 :: r2) h1 h2 (.inr ⟨_, rfl⟩) (.inr ⟨_, rfl⟩) e2
  exact ⟨rfl, (List.cons.inj e3).2⟩
theorem all_inj : ∀ {ts1 ts2 : List D} {r1 r2 : List Tok2}, (∀ t ∈ ts1, fok n t = true) → (∀ t ∈ ts2, fok n t = true) → EndR r1 → EndR r2 → (ts1.map (ginT (gtk n))).flatten ++ r1 = (ts2.map (ginT (gtk n))).flatten ++ r2 → ts1 = ts2 ∧ r1 = r2
  | [], [], r1, r2, _, _, _, _, e => ⟨rfl, e⟩
  | [], t :: ts, r1, r2, _, h2, e1, _, e => by
    exfalso
    have e : r1 = sgT 40 :: ((gtk n t ++ [sgT 41]) ++ (ts.map (ginT (gtk n))).flatten ++ r2) := e
    have := end_head e1 e
    exact absurd (Prod.mk.inj this).2 (by decide)
  | t :: ts, [], r1, r2, h1, _, _, e2, e => by
    exfalso
    have e : sgT 40 :: ((gtk n t ++ [sgT 41]) ++ (ts.map (ginT (gtk n))).flatten ++ r1) = r2 := e
    have := end_head e2 e.symm
    exact absurd (Prod.mk.inj this).2 (by decide)
  | t1 :: ts1, t2 :: ts2, r1, r2, h1, h2, e1, e2, e => by
    have e : (ginT (gtk n) t1 ++ (ts1.map (ginT (gtk n))).flatten) ++ r1 = (ginT (gtk n) t2 ++ (ts2.map (ginT (gtk n))).flatten) ++ r2 := e
    (rw [List.append_assoc, List.append_assoc] at e)
    obtain ⟨rfl, e3⟩ := gin_inj hg (h1 t1 List.mem_cons_self) (h2 t2 List.mem_cons_self) e
    obtain ⟨rfl, e4⟩ := all_inj (fun t ht => h1 t (List.mem_cons_of_mem _ ht)) (fun t ht => h2 t (List.mem_cons_of_mem _ ht)) e1 e2 e3
    exact ⟨rfl, e4⟩
theorem mix_inj : ∀ {ps1 ps2 : List (Int × D)} {r1 r2 : List Tok2}, (∀ p ∈ ps1, fok n p.2 = true) → (∀ p ∈ ps2, fok n p.2 = true) → EndR r1 → EndR r2 → (ps1.map fun p => numT p.1 :: ginT (gtk n) p.2).flatten ++ r1 = (ps2.map fun p => numT p.1 :: ginT (gtk n) p.2).flatten ++ r2 → ps1 = ps2 ∧ r1 = r2
  | [], [], r1, r2, _, _, _, _, e => ⟨rfl, e⟩
  | [], t :: ts, r1, r2, _, h2, e1, _, e => by
    exfalso
    have e : r1 = numT t.1 :: (ginT (gtk n) t.2 ++ (ts.map fun p => numT p.1 :: ginT (gtk n) p.2).flatten ++ r2) := e
    have := end_head e1 e
    exact absurd (Prod.mk.inj this).1 (by decide +kernel)
  | t :: ts, [], r1, r2, h1, _, _, e2, e => by
    exfalso
    have e : numT t.1 :: (ginT (gtk n) t.2 ++ (ts.map fun p => numT p.1 :: ginT (gtk n) p.2).flatten ++ r1) = r2 := e
    have := end_head e2 e.symm
    exact absurd (Prod.mk.inj this).1 (by decide +kernel)
  | p1 :: ps1, p2 :: ps2, r1, r2, h1, h2, e1, e2, e => by
    have e : numT p1.1 :: ((ginT (gtk n) p1.2 ++ (ps1.map fun p => numT p.1 :: ginT (gtk n) p.2).flatten) ++ r1) = numT p2.1 :: ((ginT (gtk n) p2.2 ++ (ps2.map fun p => numT p.1 :: ginT (gtk n) p.2).flatten) ++ r2) := e
    obtain ⟨e0, e⟩ := List.cons.inj e
    have ei := numW_inj (Prod.mk.inj e0).2
    (rw [List.append_assoc, List.append_assoc] at e)
    obtain ⟨ed, e3⟩ := gin_inj hg (h1 p1 List.mem_cons_self) (h2 p2 List.mem_cons_self) e
    obtain ⟨rfl, e4⟩ := mix_inj (fun t ht => h1 t (List.mem_cons_of_mem _ ht)) (fun t ht => h2 t (List.mem_cons_of_mem _ ht)) e1 e2 e3
    exact ⟨by rw [Prod.ext ei ed], e4⟩
theorem arg_inj {a1 a2 : D} {r1 r2 : List Tok2} (h1 : ArgN n a1) (h2 : ArgN n a2) (e : argTk (gtk n) a1 ++ r1 = argTk (gtk n) a2 ++ r2) : a1 = a2 ∧ r1 = r2 := by
  have nr : W "number" ≠ W "run" := by decide +kernel
  have ns : W "number" ≠ W "sign" := by decide +kernel
  have rs : W "run" ≠ W "sign" := by decide +kernel
  have kid : ∀ {a : D}, fok n a = true → ∀ r, argTk (gtk n) a ++ r = sgT 40 :: ((gtk n a ++ [sgT 41]) ++ r) := fun h r => by rw [argTk_kid (fok_hf h)]; rfl
  rcases h1 with ⟨i, rfl⟩ | ⟨s, rfl⟩ | h1
  · rcases h2 with ⟨j, rfl⟩ | ⟨s, rfl⟩ | h2
    · obtain ⟨e0, e1⟩ := List.cons.inj (show numT i :: r1 = numT j :: r2 from e)
      exact ⟨by rw [numW_inj (Prod.mk.inj e0).2], e1⟩
    · exact absurd (Prod.mk.inj (List.cons.inj (show numT i :: r1 = runT s :: r2 from e)).1).1 nr
    · rw [kid h2] at e
      exact absurd (Prod.mk.inj (List.cons.inj (show numT i :: r1 = _ from e)).1).1 ns
  · rcases h2 with ⟨j, rfl⟩ | ⟨s', rfl⟩ | h2
    · exact absurd (Prod.mk.inj (List.cons.inj (show runT s :: r1 = numT j :: r2 from e)).1).1 (Ne.symm nr)
    · obtain ⟨e0, e1⟩ := List.cons.inj (show runT s :: r1 = runT s' :: r2 from e)
      exact ⟨by rw [(Prod.mk.inj e0).2], e1⟩
    · rw [kid h2] at e
      exact absurd (Prod.mk.inj (List.cons.inj (show runT s :: r1 = _ from e)).1).1 rs
  · rcases h2 with ⟨j, rfl⟩ | ⟨s', rfl⟩ | h2
    · rw [kid h1] at e
      exact absurd (Prod.mk.inj (List.cons.inj (show _ = numT j :: r2 from e)).1).1 (Ne.symm ns)
    · rw [kid h1] at e
      exact absurd (Prod.mk.inj (List.cons.inj (show _ = runT s' :: r2 from e)).1).1 (Ne.symm rs)
    · rw [argTk_kid (fok_hf h1), argTk_kid (fok_hf h2)] at e
      exact gin_inj hg h1 h2 e
theorem args_inj : ∀ {as1 as2 : List D} {r1 r2 : List Tok2}, as1.length = as2.length → (∀ a ∈ as1, ArgN n a) → (∀ a ∈ as2, ArgN n a) → (as1.map (argTk (gtk n))).flatten ++ r1 = (as2.map (argTk (gtk n))).flatten ++ r2 → as1 = as2 ∧ r1 = r2
  | [], [], r1, r2, _, _, _, e => ⟨rfl, e⟩
  | [], _ :: _, _, _, h, _, _, _ => by cases h
  | _ :: _, [], _, _, h, _, _, _ => by cases h
  | a1 :: as1, a2 :: as2, r1, r2, hl, h1, h2, e => by
    have e : (argTk (gtk n) a1 ++ (as1.map (argTk (gtk n))).flatten) ++ r1 = (argTk (gtk n) a2 ++ (as2.map (argTk (gtk n))).flatten) ++ r2 := e
    (rw [List.append_assoc, List.append_assoc] at e)
    obtain ⟨rfl, e3⟩ := arg_inj hg (h1 a1 List.mem_cons_self) (h2 a2 List.mem_cons_self) e
    obtain ⟨rfl, e4⟩ := args_inj (by simpa using hl) (fun t ht => h1 t (List.mem_cons_of_mem _ ht)) (fun t ht => h2 t (List.mem_cons_of_mem _ ht)) e3
    exact ⟨rfl, e4⟩
end
theorem gtk_inj : ∀ (n : Nat) (d1 d2 : D) (r1 r2 : List Tok2), fok n d1 = true → fok n d2 = true → EndR r1 → EndR r2 → gtk n d1 ++ r1 = gtk n d2 ++ r2 → d1 = d2 ∧ r1 = r2
  | 0, d1, d2, r1, r2, h, _, _, _, _ => by cases h
  | n + 1, d1, d2, r1, r2, h1, h2, e1, e2, e => by
    have hg := gtk_inj n
    obtain ⟨w, as1, rfl, hl1, hw1⟩ := hf_split (fok_hf h1)
    obtain ⟨w', as2, rfl, hl2, hw2⟩ := hf_split (fok_hf h2)
    have k1 := fok_kids h1
    have k2 := fok_kids h2
    obtain ⟨e0, e⟩ := List.cons.inj (show runT w :: _ = runT w' :: _ from e)
    obtain rfl : w = w' := (Prod.mk.inj e0).2
    have e : (if w = W "just" then ttk 6 (as1.getD 0 .non) else if w = W "some" then ((tupL (as1.getD 0 .non)).map (ttk 6)).flatten else if w = W "mix" then ((tupL (as1.getD 0 .non)).map fun p => numT (fstI p) :: ginT (gtk n) (sndD p)).flatten else if w = W "all" then ((tupL (as1.getD 0 .non)).map (ginT (gtk n))).flatten else (as1.map (argTk (gtk n))).flatten) ++ r1 =
      (if w = W "just" then ttk 6 (as2.getD 0 .non) else if w = W "some" then ((tupL (as2.getD 0 .non)).map (ttk 6)).flatten else if w = W "mix" then ((tupL (as2.getD 0 .non)).map fun p => numT (fstI p) :: ginT (gtk n) (sndD p)).flatten else if w = W "all" then ((tupL (as2.getD 0 .non)).map (ginT (gtk n))).flatten else (as2.map (argTk (gtk n))).flatten) ++ r2 := e
    by_cases c1 : w = W "just"
    · rw [if_pos c1, if_pos c1] at e
      obtain ⟨t1, rfl⟩ := len_one (hl1.trans (by rw [c1]; decide +kernel))
      obtain ⟨t2, rfl⟩ := len_one (hl2.trans (by rw [c1]; decide +kernel))
      have o1 : own t1 = true := by subst c1; exact hw1
      have o2 : own t2 = true := by subst c1; exact hw2
      obtain ⟨e3, e4⟩ := ttk_inj (own_words o1).2.1 (own_words o2).2.1 e
      exact ⟨by rw [show t1 = t2 from e3], e4⟩
    rw [if_neg c1, if_neg c1] at e
    by_cases c2 : w = W "some"
    · rw [if_pos c2, if_pos c2] at e
      have go : ∀ {as : List D}, as.length + 1 = lenOf w → hfW w as = true → ∃ ts, as = [.tup ts] ∧ ∀ t ∈ ts, own t = true := fun {as} hl hw => by
        obtain ⟨t, rfl⟩ := len_one (hl.trans (by rw [c2]; decide +kernel))
        have hso : somesOk t = true := by subst c2; exact hw
        cases t with
        | tup ds =>
          rw [somesOk_tup, Bool.and_eq_true, List.all_eq_true] at hso
          exact ⟨ds, rfl, hso.2⟩
        | _ => cases hso
      obtain ⟨ts1, rfl, o1⟩ := go hl1 hw1
      obtain ⟨ts2, rfl, o2⟩ := go hl2 hw2
      obtain ⟨e3, e4⟩ := some_inj o1 o2 e1 e2 e
      exact ⟨by rw [show ts1 = ts2 from e3], e4⟩
    rw [if_neg c2, if_neg c2] at e
    by_cases c3 : w = W "mix"
    · rw [if_pos c3, if_pos c3] at e
      have go : ∀ {as : List D}, as.length + 1 = lenOf w → hfW w as = true → (∀ k ∈ kidsG (.tup (.str w :: as)), fok n k = true) → ∃ ps : List (Int × D), as = [.tup (ps.map fun p => .tup [.int p.1, p.2])] ∧ (∀ p ∈ ps, fok n p.2 = true) ∧ ((tupL (as.getD 0 .non)).map fun p => numT (fstI p) :: ginT (gtk n) (sndD p)).flatten = (ps.map fun p => numT p.1 :: ginT (gtk n) p.2).flatten := fun {as} hl hw hk => by
        obtain ⟨ps, rfl, l1, l2, hps⟩ : ∃ ps : List (Int × D), as = [.tup (ps.map fun p => .tup [.int p.1, p.2])] ∧ 1 ≤ ps.length ∧ ps.length ≤ 6 ∧ ∀ p ∈ ps, 1 ≤ p.1 ∧ p.1 ≤ 9 := by subst c3; exact hf_mix hl hw
        have ek : kidsG (.tup (.str w :: [.tup (ps.map fun p => .tup [.int p.1, p.2])])) = ps.map (·.2) := by
          subst c3
          show ((ps.map fun p => D.tup [.int p.1, p.2]).map sndD) = _
          rw [List.map_map]
          rfl
        refine ⟨ps, rfl, fun p hp => hk p.2 (by rw [ek]; exact List.mem_map.mpr ⟨p, hp, rfl⟩), ?_⟩
        show ((ps.map fun p => D.tup [.int p.1, p.2]).map fun p => numT (fstI p) :: ginT (gtk n) (sndD p)).flatten = _
        rw [List.map_map]
        rfl
      obtain ⟨ps1, ea1, f1, x1⟩ := go hl1 hw1 k1
      obtain ⟨ps2, ea2, f2, x2⟩ := go hl2 hw2 k2
      rw [x1, x2] at e
      obtain ⟨e3, e4⟩ := mix_inj hg f1 f2 e1 e2 e
      exact ⟨by rw [ea1, ea2, show ps1 = ps2 from e3], e4⟩
    rw [if_neg c3, if_neg c3] at e
    by_cases c4 : w = W "all"
    · rw [if_pos c4, if_pos c4] at e
      have go : ∀ {as : List D}, as.length + 1 = lenOf w → hfW w as = true → (∀ k ∈ kidsG (.tup (.str w :: as)), fok n k = true) → ∃ ts : List D, as = [.tup ts] ∧ ∀ t ∈ ts, fok n t = true := fun {as} hl hw hk => by
        obtain ⟨ts, rfl, l2⟩ : ∃ ds : List D, as = [.tup ds] ∧ ds.length ≤ 6 := by subst c4; exact hf_all hl hw
        have ek : kidsG (.tup (.str w :: [.tup ts])) = ts := by subst c4; rfl
        exact ⟨ts, rfl, fun t ht => hk t (by rw [ek]; exact ht)⟩
      obtain ⟨ts1, rfl, f1⟩ := go hl1 hw1 k1
      obtain ⟨ts2, rfl, f2⟩ := go hl2 hw2 k2
      obtain ⟨e3, e4⟩ := all_inj hg f1 f2 e1 e2 e
      exact ⟨by rw [show ts1 = ts2 from e3], e4⟩
    rw [if_neg c4, if_neg c4] at e
    have ga : ∀ {as : List D}, as.length + 1 = lenOf w → hfW w as = true → (∀ k ∈ kidsG (.tup (.str w :: as)), fok n k = true) → ∀ a ∈ as, ArgN n a := fun {as} hl hw hk a ha => by
      rcases hf_argsG hl hw c1 c2 c3 c4 a ha with h | ⟨s, h, _⟩ | h
      · exact .inl h
      · exact .inr (.inl ⟨s, h⟩)
      · exact .inr (.inr (hk a h))
    obtain ⟨e3, e4⟩ := args_inj hg (by omega) (ga hl1 hw1 k1) (ga hl2 hw2 k2) e
    exact ⟨by rw [e3], e4⟩
theorem text_inj {d1 d2 : D} (h1 : fok 6 d1 = true) (h2 : fok 6 d2 = true) : sprd (gws 6 d1) = sprd (gws 6 d2) ↔ d1 = d2 := by
  constructor
  · intro e
    have t1 := toks_gap (gap_sprd (gtk_good 6 d1 h1))
    have t2 := toks_gap (gap_sprd (gtk_good 6 d2 h2))
    rw [gtk_words 6 d1 h1] at t1
    rw [gtk_words 6 d2 h2] at t2
    rw [e, t2] at t1
    exact (gtk_inj 6 d1 d2 [] [] h1 h2 (.inl rfl) (.inl rfl) (by rw [List.append_nil, List.append_nil, t1])).1
  · intro e
    rw [e]
end K6
set_option maxHeartbeats 4000001
namespace K6
open L2 PySem PySem.Spec PyProof.Rows
def LeafOk (ns : Nms) (gr : Bool) (d : D) : Prop := okG (d, ns, gr) = true ∧ scG (d, ns, gr) = []
def VG (n room : Nat) (b : GB) : Prop := tokS okG scG n b = true ∧ cntS scG n b ≤ room
theorem okG_of {d : D} {ns : Nms} {gr : Bool} (h1 : hf d = true) (h2 : stG (d, ns, gr) = true) : okG (d, ns, gr) = true := by
  show (hf d && stG (d, ns, gr)) = true
  rw [h1, h2]
  rfl
theorem sc_just {ns : Nms} {gr : Bool} {t : D} : scG (gnD "just" [t], ns, gr) = [] := by
  simp [hf, gnD, hfW, leafOk, lenOf, stG, scG, kidsG, rowOk, tupL, strL, sndD, W_just, W_some, W_from, W_mix, W_all, W_row, W_turn, W_keep, W_let, W_var, W_upto, W_times, W_grow, W_again]
theorem hv_just {t : D} : hf (gnD "just" [t]) = own t := by
  simp [hf, gnD, hfW, leafOk, lenOf, stG, scG, kidsG, rowOk, tupL, strL, sndD, W_just, W_some, W_from, W_mix, W_all, W_row, W_turn, W_keep, W_let, W_var, W_upto, W_times, W_grow, W_again]
theorem st_just {ns : Nms} {gr : Bool} {t : D} : stG (gnD "just" [t], ns, gr) = true := by
  simp [hf, gnD, hfW, leafOk, lenOf, stG, scG, kidsG, rowOk, tupL, strL, sndD, W_just, W_some, W_from, W_mix, W_all, W_row, W_turn, W_keep, W_let, W_var, W_upto, W_times, W_grow, W_again]
theorem sc_some {ns : Nms} {gr : Bool} {t : D} : scG (gnD "some" [t], ns, gr) = [] := by
  simp [hf, gnD, hfW, leafOk, lenOf, stG, scG, kidsG, rowOk, tupL, strL, sndD, W_just, W_some, W_from, W_mix, W_all, W_row, W_turn, W_keep, W_let, W_var, W_upto, W_times, W_grow, W_again]
theorem hv_some {t : D} : hf (gnD "some" [t]) = somesOk t := by
  simp [hf, gnD, hfW, leafOk, lenOf, stG, scG, kidsG, rowOk, tupL, strL, sndD, W_just, W_some, W_from, W_mix, W_all, W_row, W_turn, W_keep, W_let, W_var, W_upto, W_times, W_grow, W_again]
theorem st_some {ns : Nms} {gr : Bool} {t : D} : stG (gnD "some" [t], ns, gr) = true := by
  simp [hf, gnD, hfW, leafOk, lenOf, stG, scG, kidsG, rowOk, tupL, strL, sndD, W_just, W_some, W_from, W_mix, W_all, W_row, W_turn, W_keep, W_let, W_var, W_upto, W_times, W_grow, W_again]
theorem sc_from {ns : Nms} {gr : Bool} {t u : D} : scG (gnD "from" [t, u], ns, gr) = [] := by
  simp [hf, gnD, hfW, leafOk, lenOf, stG, scG, kidsG, rowOk, tupL, strL, sndD, W_just, W_some, W_from, W_mix, W_all, W_row, W_turn, W_keep, W_let, W_var, W_upto, W_times, W_grow, W_again]
theorem hv_from {t u : D} : hf (gnD "from" [t, u]) = span t u := by
  simp [hf, gnD, hfW, leafOk, lenOf, stG, scG, kidsG, rowOk, tupL, strL, sndD, W_just, W_some, W_from, W_mix, W_all, W_row, W_turn, W_keep, W_let, W_var, W_upto, W_times, W_grow, W_again]
theorem st_from {ns : Nms} {gr : Bool} {t u : D} : stG (gnD "from" [t, u], ns, gr) = true := by
  simp [hf, gnD, hfW, leafOk, lenOf, stG, scG, kidsG, rowOk, tupL, strL, sndD, W_just, W_some, W_from, W_mix, W_all, W_row, W_turn, W_keep, W_let, W_var, W_upto, W_times, W_grow, W_again]
theorem sc_var {ns : Nms} {gr : Bool} {x : List Nat} : scG (gnD "var" [.str x], ns, gr) = [] := by
  simp [hf, gnD, hfW, leafOk, lenOf, stG, scG, kidsG, rowOk, tupL, strL, sndD, W_just, W_some, W_from, W_mix, W_all, W_row, W_turn, W_keep, W_let, W_var, W_upto, W_times, W_grow, W_again]
theorem hv_var {x : List Nat} : hf (gnD "var" [.str x]) = isName (.str x) := by
  simp [hf, gnD, hfW, leafOk, lenOf, stG, scG, kidsG, rowOk, tupL, strL, sndD, W_just, W_some, W_from, W_mix, W_all, W_row, W_turn, W_keep, W_let, W_var, W_upto, W_times, W_grow, W_again]
theorem st_var {ns : Nms} {gr : Bool} {x : List Nat} : stG (gnD "var" [.str x], ns, gr) = decide (x ∈ ns) := by
  simp [hf, gnD, hfW, leafOk, lenOf, stG, scG, kidsG, rowOk, tupL, strL, sndD, W_just, W_some, W_from, W_mix, W_all, W_row, W_turn, W_keep, W_let, W_var, W_upto, W_times, W_grow, W_again]
theorem sc_upto {ns : Nms} {gr : Bool} {x : List Nat} : scG (gnD "upto" [.str x], ns, gr) = [] := by
  simp [hf, gnD, hfW, leafOk, lenOf, stG, scG, kidsG, rowOk, tupL, strL, sndD, W_just, W_some, W_from, W_mix, W_all, W_row, W_turn, W_keep, W_let, W_var, W_upto, W_times, W_grow, W_again]
theorem hv_upto {x : List Nat} : hf (gnD "upto" [.str x]) = isName (.str x) := by
  simp [hf, gnD, hfW, leafOk, lenOf, stG, scG, kidsG, rowOk, tupL, strL, sndD, W_just, W_some, W_from, W_mix, W_all, W_row, W_turn, W_keep, W_let, W_var, W_upto, W_times, W_grow, W_again]
theorem st_upto {ns : Nms} {gr : Bool} {x : List Nat} : stG (gnD "upto" [.str x], ns, gr) = decide (x ∈ ns) := by
  simp [hf, gnD, hfW, leafOk, lenOf, stG, scG, kidsG, rowOk, tupL, strL, sndD, W_just, W_some, W_from, W_mix, W_all, W_row, W_turn, W_keep, W_let, W_var, W_upto, W_times, W_grow, W_again]
theorem sc_again {ns : Nms} {gr : Bool}  : scG (gnD "again" [], ns, gr) = [] := by
  simp [hf, gnD, hfW, leafOk, lenOf, stG, scG, kidsG, rowOk, tupL, strL, sndD, W_just, W_some, W_from, W_mix, W_all, W_row, W_turn, W_keep, W_let, W_var, W_upto, W_times, W_grow, W_again]
theorem hv_again  : hf (gnD "again" []) = true := by
  simp [hf, gnD, hfW, leafOk, lenOf, stG, scG, kidsG, rowOk, tupL, strL, sndD, W_just, W_some, W_from, W_mix, W_all, W_row, W_turn, W_keep, W_let, W_var, W_upto, W_times, W_grow, W_again]
theorem st_again {ns : Nms} {gr : Bool}  : stG (gnD "again" [], ns, gr) = gr := by
  simp [hf, gnD, hfW, leafOk, lenOf, stG, scG, kidsG, rowOk, tupL, strL, sndD, W_just, W_some, W_from, W_mix, W_all, W_row, W_turn, W_keep, W_let, W_var, W_upto, W_times, W_grow, W_again]
theorem sc_mix {ns : Nms} {gr : Bool} {t : D} : scG (gnD "mix" [t], ns, gr) = ((tupL t).map sndD).map fun d => (d, ns, gr) := by
  simp [hf, gnD, hfW, leafOk, lenOf, stG, scG, kidsG, rowOk, tupL, strL, sndD, W_just, W_some, W_from, W_mix, W_all, W_row, W_turn, W_keep, W_let, W_var, W_upto, W_times, W_grow, W_again]
theorem hv_mix {t : D} : hf (gnD "mix" [t]) = pairsOk t := by
  simp [hf, gnD, hfW, leafOk, lenOf, stG, scG, kidsG, rowOk, tupL, strL, sndD, W_just, W_some, W_from, W_mix, W_all, W_row, W_turn, W_keep, W_let, W_var, W_upto, W_times, W_grow, W_again]
theorem st_mix {ns : Nms} {gr : Bool} {t : D} : stG (gnD "mix" [t], ns, gr) = true := by
  simp [hf, gnD, hfW, leafOk, lenOf, stG, scG, kidsG, rowOk, tupL, strL, sndD, W_just, W_some, W_from, W_mix, W_all, W_row, W_turn, W_keep, W_let, W_var, W_upto, W_times, W_grow, W_again]
theorem sc_all {ns : Nms} {gr : Bool} {t : D} : scG (gnD "all" [t], ns, gr) = (tupL t).map fun d => (d, ns, gr) := by
  simp [hf, gnD, hfW, leafOk, lenOf, stG, scG, kidsG, rowOk, tupL, strL, sndD, W_just, W_some, W_from, W_mix, W_all, W_row, W_turn, W_keep, W_let, W_var, W_upto, W_times, W_grow, W_again]
theorem hv_all {t : D} : hf (gnD "all" [t]) = mny 0 6 t := by
  simp [hf, gnD, hfW, leafOk, lenOf, stG, scG, kidsG, rowOk, tupL, strL, sndD, W_just, W_some, W_from, W_mix, W_all, W_row, W_turn, W_keep, W_let, W_var, W_upto, W_times, W_grow, W_again]
theorem st_all {ns : Nms} {gr : Bool} {t : D} : stG (gnD "all" [t], ns, gr) = true := by
  simp [hf, gnD, hfW, leafOk, lenOf, stG, scG, kidsG, rowOk, tupL, strL, sndD, W_just, W_some, W_from, W_mix, W_all, W_row, W_turn, W_keep, W_let, W_var, W_upto, W_times, W_grow, W_again]
theorem sc_row {ns : Nms} {gr : Bool} {a b d : D} : scG (gnD "row" [a, b, d], ns, gr) = [(d, ns, gr)] := by
  simp [hf, gnD, hfW, leafOk, lenOf, stG, scG, kidsG, rowOk, tupL, strL, sndD, W_just, W_some, W_from, W_mix, W_all, W_row, W_turn, W_keep, W_let, W_var, W_upto, W_times, W_grow, W_again]
theorem hv_row {a b d : D} : hf (gnD "row" [a, b, d]) = rowOk a b := by
  simp [hf, gnD, hfW, leafOk, lenOf, stG, scG, kidsG, rowOk, tupL, strL, sndD, W_just, W_some, W_from, W_mix, W_all, W_row, W_turn, W_keep, W_let, W_var, W_upto, W_times, W_grow, W_again]
theorem st_row {ns : Nms} {gr : Bool} {a b d : D} : stG (gnD "row" [a, b, d], ns, gr) = true := by
  simp [hf, gnD, hfW, leafOk, lenOf, stG, scG, kidsG, rowOk, tupL, strL, sndD, W_just, W_some, W_from, W_mix, W_all, W_row, W_turn, W_keep, W_let, W_var, W_upto, W_times, W_grow, W_again]
theorem sc_turn {ns : Nms} {gr : Bool} {a d : D} : scG (gnD "turn" [a, d], ns, gr) = [(d, ns, gr)] := by
  simp [hf, gnD, hfW, leafOk, lenOf, stG, scG, kidsG, rowOk, tupL, strL, sndD, W_just, W_some, W_from, W_mix, W_all, W_row, W_turn, W_keep, W_let, W_var, W_upto, W_times, W_grow, W_again]
theorem hv_turn {a d : D} : hf (gnD "turn" [a, d]) = inW turnW a := by
  simp [hf, gnD, hfW, leafOk, lenOf, stG, scG, kidsG, rowOk, tupL, strL, sndD, W_just, W_some, W_from, W_mix, W_all, W_row, W_turn, W_keep, W_let, W_var, W_upto, W_times, W_grow, W_again]
theorem st_turn {ns : Nms} {gr : Bool} {a d : D} : stG (gnD "turn" [a, d], ns, gr) = true := by
  simp [hf, gnD, hfW, leafOk, lenOf, stG, scG, kidsG, rowOk, tupL, strL, sndD, W_just, W_some, W_from, W_mix, W_all, W_row, W_turn, W_keep, W_let, W_var, W_upto, W_times, W_grow, W_again]
theorem sc_keep {ns : Nms} {gr : Bool} {a b d : D} : scG (gnD "keep" [a, b, d], ns, gr) = [(d, ns, gr)] := by
  simp [hf, gnD, hfW, leafOk, lenOf, stG, scG, kidsG, rowOk, tupL, strL, sndD, W_just, W_some, W_from, W_mix, W_all, W_row, W_turn, W_keep, W_let, W_var, W_upto, W_times, W_grow, W_again]
theorem hv_keep {a b d : D} : hf (gnD "keep" [a, b, d]) = (inW testW a && amg 0 3 b) := by
  simp [hf, gnD, hfW, leafOk, lenOf, stG, scG, kidsG, rowOk, tupL, strL, sndD, W_just, W_some, W_from, W_mix, W_all, W_row, W_turn, W_keep, W_let, W_var, W_upto, W_times, W_grow, W_again]
theorem st_keep {ns : Nms} {gr : Bool} {a b d : D} : stG (gnD "keep" [a, b, d], ns, gr) = true := by
  simp [hf, gnD, hfW, leafOk, lenOf, stG, scG, kidsG, rowOk, tupL, strL, sndD, W_just, W_some, W_from, W_mix, W_all, W_row, W_turn, W_keep, W_let, W_var, W_upto, W_times, W_grow, W_again]
theorem sc_let {ns : Nms} {gr : Bool} {x : List Nat} {c d : D} : scG (gnD "let" [.str x, c, d], ns, gr) = [(c, ns, gr), (d, ns ++ [x], gr)] := by
  simp [hf, gnD, hfW, leafOk, lenOf, stG, scG, kidsG, rowOk, tupL, strL, sndD, W_just, W_some, W_from, W_mix, W_all, W_row, W_turn, W_keep, W_let, W_var, W_upto, W_times, W_grow, W_again]
theorem hv_let {x : List Nat} {c d : D} : hf (gnD "let" [.str x, c, d]) = isName (.str x) := by
  simp [hf, gnD, hfW, leafOk, lenOf, stG, scG, kidsG, rowOk, tupL, strL, sndD, W_just, W_some, W_from, W_mix, W_all, W_row, W_turn, W_keep, W_let, W_var, W_upto, W_times, W_grow, W_again]
theorem st_let {ns : Nms} {gr : Bool} {x : List Nat} {c d : D} : stG (gnD "let" [.str x, c, d], ns, gr) = true := by
  simp [hf, gnD, hfW, leafOk, lenOf, stG, scG, kidsG, rowOk, tupL, strL, sndD, W_just, W_some, W_from, W_mix, W_all, W_row, W_turn, W_keep, W_let, W_var, W_upto, W_times, W_grow, W_again]
theorem sc_times {ns : Nms} {gr : Bool} {x : List Nat} {d : D} : scG (gnD "times" [.str x, d], ns, gr) = [(d, ns, gr)] := by
  simp [hf, gnD, hfW, leafOk, lenOf, stG, scG, kidsG, rowOk, tupL, strL, sndD, W_just, W_some, W_from, W_mix, W_all, W_row, W_turn, W_keep, W_let, W_var, W_upto, W_times, W_grow, W_again]
theorem hv_times {x : List Nat} {d : D} : hf (gnD "times" [.str x, d]) = isName (.str x) := by
  simp [hf, gnD, hfW, leafOk, lenOf, stG, scG, kidsG, rowOk, tupL, strL, sndD, W_just, W_some, W_from, W_mix, W_all, W_row, W_turn, W_keep, W_let, W_var, W_upto, W_times, W_grow, W_again]
theorem st_times {ns : Nms} {gr : Bool} {x : List Nat} {d : D} : stG (gnD "times" [.str x, d], ns, gr) = decide (x ∈ ns) := by
  simp [hf, gnD, hfW, leafOk, lenOf, stG, scG, kidsG, rowOk, tupL, strL, sndD, W_just, W_some, W_from, W_mix, W_all, W_row, W_turn, W_keep, W_let, W_var, W_upto, W_times, W_grow, W_again]
theorem sc_grow {ns : Nms} {gr : Bool} {a c d : D} : scG (gnD "grow" [a, c, d], ns, gr) = [(c, ns, gr), (d, ns, true)] := by
  simp [hf, gnD, hfW, leafOk, lenOf, stG, scG, kidsG, rowOk, tupL, strL, sndD, W_just, W_some, W_from, W_mix, W_all, W_row, W_turn, W_keep, W_let, W_var, W_upto, W_times, W_grow, W_again]
theorem hv_grow {a c d : D} : hf (gnD "grow" [a, c, d]) = amg 0 3 a := by
  simp [hf, gnD, hfW, leafOk, lenOf, stG, scG, kidsG, rowOk, tupL, strL, sndD, W_just, W_some, W_from, W_mix, W_all, W_row, W_turn, W_keep, W_let, W_var, W_upto, W_times, W_grow, W_again]
theorem st_grow {ns : Nms} {gr : Bool} {a c d : D} : stG (gnD "grow" [a, c, d], ns, gr) = true := by
  simp [hf, gnD, hfW, leafOk, lenOf, stG, scG, kidsG, rowOk, tupL, strL, sndD, W_just, W_some, W_from, W_mix, W_all, W_row, W_turn, W_keep, W_let, W_var, W_upto, W_times, W_grow, W_again]
theorem lf_just {ns : Nms} {gr : Bool} {t : D} (h : own t = true) : LeafOk ns gr (gnD "just" [t]) := ⟨okG_of (hv_just.trans h) st_just, sc_just⟩
theorem lf_some {ns : Nms} {gr : Bool} {ts : List D} (h1 : 1 ≤ ts.length) (h2 : ts.length ≤ 9) (h : ∀ t ∈ ts, own t = true) : LeafOk ns gr (gnD "some" [.tup ts]) := by
  refine ⟨okG_of (hv_some.trans ?_) st_some, sc_some⟩
  show ((decide ((1 : Int) ≤ (ts.length : Int)) && decide ((ts.length : Int) ≤ 9)) && ts.all own) = true
  rw [decide_eq_true (by omega), decide_eq_true (by omega), Bool.true_and, Bool.true_and, List.all_eq_true]
  exact h
theorem lf_from {ns : Nms} {gr : Bool} {i j : Int} (h : span (.int i) (.int j) = true) : LeafOk ns gr (gnD "from" [.int i, .int j]) := ⟨okG_of (hv_from.trans h) st_from, sc_from⟩
theorem lf_var {ns : Nms} {gr : Bool} {x : List Nat} (h : isNm x = true) (hx : x ∈ ns) : LeafOk ns gr (gnD "var" [.str x]) := ⟨okG_of (hv_var.trans h) (st_var.trans (decide_eq_true hx)), sc_var⟩
theorem lf_upto {ns : Nms} {gr : Bool} {x : List Nat} (h : isNm x = true) (hx : x ∈ ns) : LeafOk ns gr (gnD "upto" [.str x]) := ⟨okG_of (hv_upto.trans h) (st_upto.trans (decide_eq_true hx)), sc_upto⟩
theorem lf_again {ns : Nms} {gr : Bool} (h : gr = true) : LeafOk ns gr (gnD "again" []) := ⟨okG_of hv_again (st_again.trans h), sc_again⟩
theorem vg_leaf {ns : Nms} {gr : Bool} {d : D} {n room : Nat} (h : LeafOk ns gr d) (hr : 1 ≤ room) : VG (n + 1) room (d, ns, gr) := by
  refine ⟨?_, ?_⟩
  · show (okG (d, ns, gr) && (scG (d, ns, gr)).all (tokS okG scG n)) = true
    rw [h.1, h.2]
    rfl
  · show 1 + ((scG (d, ns, gr)).map (cntS scG n)).sum ≤ room
    rw [h.2]
    exact hr
theorem vg_node {b : GB} {n room : Nat} (h : okG b = true) (hk : ∀ c ∈ scG b, tokS okG scG n c = true) (hc : ((scG b).map (cntS scG n)).sum + 1 ≤ room) : VG (n + 1) room b := by
  refine ⟨?_, ?_⟩
  · show (okG b && (scG b).all (tokS okG scG n)) = true
    rw [h, Bool.true_and, List.all_eq_true]
    exact hk
  · show 1 + ((scG b).map (cntS scG n)).sum ≤ room
    omega
theorem vg_one {b c : GB} {n room r : Nat} (h : okG b = true) (e : scG b = [c]) (v : VG n r c) (hc : r + 1 ≤ room) : VG (n + 1) room b := by
  refine vg_node h ?_ ?_
  · rw [e]
    intro x hx
    rw [List.mem_singleton] at hx
    rw [hx]
    exact v.1
  · rw [e]
    have := v.2
    show cntS scG n c + 0 + 1 ≤ room
    omega
theorem vg_two {b c d : GB} {n room r s : Nat} (h : okG b = true) (e : scG b = [c, d]) (v : VG n r c) (u : VG n s d) (hc : r + s + 1 ≤ room) : VG (n + 1) room b := by
  refine vg_node h ?_ ?_
  · rw [e]
    intro x hx
    (rcases List.mem_cons.mp hx with e | hx)
    · rw [e]
      exact v.1
    rw [List.mem_singleton] at hx
    rw [hx]
    exact u.1
  · rw [e]
    have := v.2
    have := u.2
    show cntS scG n c + (cntS scG n d + 0) + 1 ≤ room
    omega
theorem sum_idx : ∀ {cs : List Nat} {rs : List Nat}, cs.length ≤ rs.length → (∀ (j : Nat) c r, cs[j]? = some c → rs[j]? = some r → c ≤ r) → cs.sum ≤ rs.sum
  | [], _, _, _ => (Nat.zero_le _)
  | c :: cs, [], h, _ => by simp at h
  | c :: cs, r :: rs, h, k => by
    have h1 := k 0 c r rfl rfl
    have h2 := sum_idx (cs := cs) (rs := rs) (by simpa using h) fun j c r hc hr => k (j + 1) c r hc hr
    (rw [List.sum_cons, List.sum_cons])
    omega
theorem vg_many {b : GB} {ds : List D} {ns : Nms} {gr : Bool} {n room : Nat} {rs : List Nat} (h : okG b = true) (e : scG b = ds.map fun d => (d, ns, gr)) (hl : ds.length ≤ rs.length)
    (v : ∀ (j : Nat) d r, ds[j]? = some d → rs[j]? = some r → VG n r (d, ns, gr)) (hc : rs.sum + 1 ≤ room) : VG (n + 1) room b := by
  have key : ∀ (j : Nat) d, ds[j]? = some d → ∃ r, rs[j]? = some r := fun j d hj => by
    have h1 : j < ds.length := by
      rcases Nat.lt_or_ge j ds.length with h | h
      · exact h
      · rw [List.getElem?_eq_none h] at hj
        cases hj
    exact ⟨_, List.getElem?_eq_getElem (by omega)⟩
  refine vg_node h ?_ ?_
  · rw [e]
    intro x hx
    obtain ⟨d, hd, rfl⟩ := List.mem_map.mp hx
    obtain ⟨j, hj⟩ := List.getElem?_of_mem hd
    obtain ⟨r, hr⟩ := key j d hj
    exact (v j d r hj hr).1
  · rw [e, List.map_map]
    have := sum_idx (cs := ds.map (cntS scG n ∘ fun d => (d, ns, gr))) (rs := rs) (by rw [List.length_map]; exact hl) fun j c r hc hr => by
      rw [List.getElem?_map] at hc
      cases hd : ds[j]? with
      | none => rw [hd] at hc; cases hc
      | some d =>
        rw [hd] at hc
        cases hc
        exact (v j d r hd hr).2
    omega
theorem ok_mix {ns : Nms} {gr : Bool} {ps : List (Int × D)} (h1 : 1 ≤ ps.length) (h2 : ps.length ≤ 6) (h : ∀ p ∈ ps, 1 ≤ p.1 ∧ p.1 ≤ 9) : okG (gnD "mix" [.tup (ps.map fun p => .tup [.int p.1, p.2])], ns, gr) = true := by
  refine okG_of (hv_mix.trans ?_) st_mix
  show ((decide ((1 : Int) ≤ ((ps.map fun p => D.tup [.int p.1, p.2]).length : Int)) && decide (((ps.map fun p => D.tup [.int p.1, p.2]).length : Int) ≤ 6)) && (ps.map fun p => D.tup [.int p.1, p.2]).all pairOk) = true
  rw [List.length_map, decide_eq_true (by omega), decide_eq_true (by omega), Bool.true_and, Bool.true_and, List.all_eq_true]
  intro d hd
  obtain ⟨p, hp, rfl⟩ := List.mem_map.mp hd
  show (decide ((1 : Int) ≤ p.1) && decide (p.1 ≤ 9)) = true
  have := h p hp
  rw [decide_eq_true this.1, decide_eq_true this.2]
  rfl
theorem kids_mix {ns : Nms} {gr : Bool} {ps : List (Int × D)} : scG (gnD "mix" [.tup (ps.map fun p => .tup [.int p.1, p.2])], ns, gr) = (ps.map (·.2)).map fun d => (d, ns, gr) := by
  rw [sc_mix]
  show ((ps.map fun p => D.tup [.int p.1, p.2]).map sndD).map _ = _
  rw [List.map_map, List.map_map, List.map_map]
  rfl
theorem ok_all {ns : Nms} {gr : Bool} {ds : List D} (h : ds.length ≤ 6) : okG (gnD "all" [.tup ds], ns, gr) = true := by
  refine okG_of (hv_all.trans ?_) st_all
  show (decide ((0 : Int) ≤ (ds.length : Int)) && decide ((ds.length : Int) ≤ 6)) = true
  rw [decide_eq_true (by omega), decide_eq_true (by omega)]
  rfl
theorem amg_of {lo hi i : Int} (h1 : lo ≤ i) (h2 : i ≤ hi) : amg lo hi (.int i) = true := by
  show (decide (lo ≤ i) && decide (i ≤ hi)) = true
  rw [decide_eq_true h1, decide_eq_true h2]
  rfl
theorem ok_row {ns : Nms} {gr : Bool} {i j : Int} {d : D} (h1 : 0 ≤ i) (h2 : i ≤ j) (h3 : j ≤ 6) : okG (gnD "row" [.int i, .int j, d], ns, gr) = true := by
  refine okG_of (hv_row.trans ?_) st_row
  show (amg 0 6 (.int i) && amg i 6 (.int j)) = true
  rw [amg_of h1 (by omega), amg_of h2 h3]
  rfl
theorem ok_turn {ns : Nms} {gr : Bool} {x : List Nat} {d : D} (h : x ∈ turnW) : okG (gnD "turn" [.str x, d], ns, gr) = true := okG_of (hv_turn.trans (decide_eq_true h)) st_turn
theorem ok_keep {ns : Nms} {gr : Bool} {x : List Nat} {i : Int} {d : D} (h : x ∈ testW) (h1 : 0 ≤ i) (h2 : i ≤ 3) : okG (gnD "keep" [.str x, .int i, d], ns, gr) = true := okG_of (hv_keep.trans (by
  rw [amg_of h1 h2, Bool.and_true]
  exact decide_eq_true h)) st_keep
theorem ok_let {ns : Nms} {gr : Bool} {x : List Nat} {c d : D} (h : isNm x = true) : okG (gnD "let" [.str x, c, d], ns, gr) = true := okG_of (hv_let.trans h) st_let
theorem ok_times {ns : Nms} {gr : Bool} {x : List Nat} {d : D} (h : isNm x = true) (hx : x ∈ ns) : okG (gnD "times" [.str x, d], ns, gr) = true := okG_of (hv_times.trans h) (st_times.trans (decide_eq_true hx))
theorem ok_grow {ns : Nms} {gr : Bool} {i : Int} {c d : D} (h1 : 0 ≤ i) (h2 : i ≤ 3) : okG (gnD "grow" [.int i, c, d], ns, gr) = true := okG_of (hv_grow.trans (amg_of h1 h2)) st_grow
theorem span_of {i j : Int} (h1 : -1000000000000000000000000000000 < i) (h2 : i ≤ j) (h3 : j ≤ i + 99) (h4 : j < 1000000000000000000000000000000) : span (.int i) (.int j) = true := by
  rw [span_int]
  show ((decide (-(10 ^ 30) < i) && decide (i < 10 ^ 30)) && ((decide (-(10 ^ 30) < j) && decide (j < 10 ^ 30)) && _)) = true
  rw [decide_eq_true (by omega), decide_eq_true (by omega), decide_eq_true (by omega), decide_eq_true (by omega), decide_eq_true (by omega), decide_eq_true (by omega)]
  rfl
theorem gw_of {d : D} {room : Nat} (h : VG 6 room (d, [], false)) (hr : room ≤ 24) : gw d = none := sw_start.mpr ⟨h.1, Nat.le_trans h.2 hr⟩
end K6
set_option maxHeartbeats 4000001
namespace K6
open L2 PySem PySem.Spec PyProof.Rows
theorem sqf {K : PySem.W.Frag} {H : Hp} {a : Addr} {o : Obj} {xs : List V} (h : H a = some (.frz o (.lst xs))) : SqL K H a xs := .inl (.inr ⟨o, h⟩)
structure Sl where
  s : Addr
  l : Addr
  c : Addr
  cells : List Int
def KM : Nat := 1000000000000000
structure St (z : Sl) (H : Hp) (k : Nat) : Prop where
  d : H z.s = some (.dK [(.inr "cells", .ref z.c), (.inr "left", .ref z.l), (.inr "at", .int k)])
  c : ∃ o, H z.c = some (.frz o (.lst (z.cells.map V.int)))
  l : ∃ ls : List Int, H z.l = some (.lst (ls.map V.int)) ∧ ls.length = z.cells.length
  n1 : z.s ≠ z.l
  n2 : z.l ≠ z.c
  small : z.cells.length ≤ 1000
def Kp (z : Sl) (H H' : Hp) : Prop := ∀ b u, b ≠ z.s → b ≠ z.l → H b = some u → H' b = some u
theorem Kp.refl {z : Sl} {H : Hp} : Kp z H H := fun _ _ _ _ h => h
theorem Kp.trans {z : Sl} {H H1 H2 : Hp} (a : Kp z H H1) (b : Kp z H1 H2) : Kp z H H2 := fun c u n m h => b c u n m (a c u n m h)
theorem Kp.of {z : Sl} {H H' : Hp} (s : Same H H') : Kp z H H' := fun b u _ _ h => s b u h
theorem Kp.new {z : Sl} {H H' : Hp} {p : Addr} {o : HO} (k : Kp z H H') (h : H' p = none) : Kp z H (upd H' p o) := fun b u n m e => up_ne (k b u n m e) h
theorem Kp.put {z : Sl} {H H' : Hp} {p : Addr} {o : HO} (k : Kp z H H') (h : H p = none) : Kp z H (upd H' p o) := fun b u n m e => by
  rw [upd_ne (ne_of_none e h)]
  exact k b u n m e
theorem St.gr {z : Sl} {H H' : Hp} {k k' : Nat} (a : St z H k) (b : St z H' k') (kp : Kp z H H') : Gr H H' := by
  obtain ⟨ls, hl, _⟩ := a.l
  obtain ⟨ls', hl', _⟩ := b.l
  refine ⟨fun c xs h => kp c _ (ne_of h a.d (by intro z; cases z)) (ne_of h hl (by intro z; cases z)) h, fun c xs h => ?_, fun c xs h => ?_⟩
  · by_cases e : c = z.l
    · exact ⟨_, by rw [e]; exact hl'⟩
    · exact ⟨xs, kp c _ (ne_of h a.d (by intro z; cases z)) e h⟩
  · by_cases e : c = z.s
    · exact ⟨_, by rw [e]; exact b.d⟩
    · exact ⟨xs, kp c _ e (ne_of h hl (by intro z; cases z)) h⟩
theorem St.same {z : Sl} {H H' : Hp} {k : Nat} (a : St z H k) (s : Same H H') : St z H' k := by
  obtain ⟨ls, hl, e⟩ := a.l
  obtain ⟨o, hc⟩ := a.c
  exact ⟨s _ _ a.d, ⟨o, s _ _ hc⟩, ⟨ls, s _ _ hl, e⟩, a.n1, a.n2, a.small⟩
theorem St.put {z : Sl} {H : Hp} {k : Nat} {p : Addr} {xs ys : List V} (a : St z H k) (e : H p = some (.lst xs)) (n1 : p ≠ z.l) (n2 : p ≠ z.c) : St z (upd H p (.lst ys)) k := by
  obtain ⟨ls, hl, e2⟩ := a.l
  refine ⟨?_, ?_, ⟨ls, ?_, e2⟩, a.n1, a.n2, a.small⟩
  · rw [upd_ne (ne_of a.d e (by intro z; cases z))]
    exact a.d
  · obtain ⟨o, hc⟩ := a.c
    exact ⟨o, by rw [upd_ne (Ne.symm n2)]; exact hc⟩
  · rw [upd_ne (Ne.symm n1)]
    exact hl
structure Dw (z : Sl) (c : Nat) (H : Hp) (k : Nat) (H' : Hp) (k' : Nat) : Prop where
  kp : Kp z H H'
  st : St z H' k'
  ge : k ≤ k'
  le : k' ≤ k + c
theorem Dw.gr {z : Sl} {c : Nat} {H H' : Hp} {k k' : Nat} (d : Dw z c H k H' k') (a : St z H k) : Gr H H' := a.gr d.st d.kp
theorem Dw.refl {z : Sl} {H : Hp} {k : Nat} (a : St z H k) : Dw z 0 H k H k := ⟨Kp.refl, a, Nat.le_refl _, Nat.le_refl _⟩
theorem Dw.trans {z : Sl} {c c' : Nat} {H H1 H2 : Hp} {k k1 k2 : Nat} (a : Dw z c H k H1 k1) (b : Dw z c' H1 k1 H2 k2) : Dw z (c + c') H k H2 k2 := ⟨a.kp.trans b.kp, b.st, Nat.le_trans a.ge b.ge, by have := a.le; have := b.le; omega⟩
theorem Dw.up {z : Sl} {c c' : Nat} {H H1 : Hp} {k k1 : Nat} (a : Dw z c H k H1 k1) (h : c ≤ c') : Dw z c' H k H1 k1 := ⟨a.kp, a.st, a.ge, by have := a.le; omega⟩
theorem Dw.same {z : Sl} {c : Nat} {H H1 H2 : Hp} {k k1 : Nat} (a : Dw z c H k H1 k1) (s : Same H1 H2) : Dw z c H k H2 k1 := ⟨a.kp.trans (.of s), a.st.same s, a.ge, a.le⟩
theorem Dw.pre {z : Sl} {c : Nat} {H H1 H2 : Hp} {k k1 : Nat} (s : Same H H1) (a : Dw z c H1 k H2 k1) : Dw z c H k H2 k1 := ⟨(Kp.of s).trans a.kp, a.st, a.ge, a.le⟩
theorem ixN_of {n j : Nat} (h : j < n) : ixN n (j : Int) = some j := by
  unfold ixN
  (rw [if_pos (by omega), if_pos (by omega)])
  rfl
def sp_mixed : Sp := fun vs H Q _ => ∃ (c : Int) (k : Nat), vs = [.int c, .int k] ∧ k ≤ KM ∧ ∀ i : Int, 0 ≤ i → i < 2147483629 → Q (.int i) H
def sp_draw : Sp := fun vs H Q _ => ∃ (z : Sl) (k : Nat) (m : Int), vs = [.ref z.s, .int m] ∧ St z H k ∧ k + 1 ≤ KM ∧ 1 ≤ m ∧ m ≤ 100000000 ∧ ∀ H' (i : Int), Dw z 1 H k H' (k + 1) → 0 ≤ i → i < m → Q (.int i) H'
def sp_one : Sp := fun vs H Q _ => ∃ (z : Sl) (k : Nat) (l : Addr) (xs : List V), vs = [.ref z.s, .ref l] ∧ St z H k ∧ k + 1 ≤ KM ∧ H l = some (.lst xs) ∧ l ≠ z.l ∧ 1 ≤ xs.length ∧ xs.length ≤ 1000 ∧ ∀ H' x, Dw z 1 H k H' (k + 1) → x ∈ xs → Q x H'
section
variable {P : Program}
variable {w : World} {K : PySem.W.Frag} {mg : Str → Option Value} {base : Heap}
abbrev s__law_mixed : Stmt := top 92
abbrev N__law_mixed : List Str := ["_law_cell", "_law_k", "_law_number_here"]
theorem sc__law_mixed : FnScope N__law_mixed ["_law_cell", "_law_k"] (defScope s__law_mixed) := ⟨rfl, rfl, rfl, by decide +kernel, rfl, by decide +kernel, by decide +kernel⟩
theorem cl__law_mixed (F : Df K mg "_law_mixed" s__law_mixed ["_law_cell", "_law_k"]) (T : Tx mg) : Cl P w K mg base 1 "_law_mixed" sp_mixed := by
  refine F.cl sc__law_mixed (fun vs H Q E h => by obtain ⟨_, _, rfl, _⟩ := h; rfl) (fun f cdv A outer s H vs Q E hr h => ?_)
  have nd := sc__law_mixed.nd
  obtain ⟨c, k, rfl, hk, q⟩ := h
  unfold KM at hk
  refine ⟨_, (pss_cons (pset 2 nd (pe_op op_add (pe_op op_add (pe_op op_mul (pe_op op_mod (pv 0) pe_int) (pe_op op_add pe_int (pe_op op_mul (pe_op op_mul pe_int (pv 1)) (pv 1)))) (pe_op op_mul pe_int (pv 1))) pe_int))
    (pss_one (ps_ret (pe_op op_mod (pe_op op_mul (pe_op op_mod (pv 2) pe_int) pe_int) pe_int)))), ?_⟩
  have e1 := Int.emod_nonneg c (show (2147483647 : Int) ≠ 0 by decide)
  have e2 := Int.emod_lt_of_pos c (show (0 : Int) < 2147483647 by decide)
  refine ⟨_, rfl, _, _, rfl, rfl, (by decide : (0 : Int) < 2147483647), _, rfl, _, _, rfl, rfl, .inl (by omega), _, rfl, _, _, rfl, rfl, .inr (by omega), _, _, rfl, rfl, _, _, rfl, rfl, .inl (by omega), _, rfl, _, _, rfl, rfl, .inl (by omega), _, _, rfl, rfl, _, _, rfl, rfl, ?_⟩
  refine ⟨_, rfl, _, _, rfl, rfl, (by decide : (0 : Int) < 2147483647), _, _, rfl, rfl, .inr (by omega), _, _, rfl, rfl, (by decide : (0 : Int) < 2147483629), ?_⟩
  exact q _ (Int.emod_nonneg _ (by decide)) (Int.emod_lt_of_pos _ (by decide))
theorem get_cells (z : Sl) (k : Nat) : valV [((.inr "cells" : Key), V.ref z.c), (.inr "left", .ref z.l), (.inr "at", .int k)] (.inr "cells") = some (.ref z.c) := by rfl
theorem get_left (z : Sl) (k : Nat) : valV [((.inr "cells" : Key), V.ref z.c), (.inr "left", .ref z.l), (.inr "at", .int k)] (.inr "left") = some (.ref z.l) := by rfl
theorem get_at (z : Sl) (k : Nat) : valV [((.inr "cells" : Key), V.ref z.c), (.inr "left", .ref z.l), (.inr "at", .int k)] (.inr "at") = some (.int k) := by rfl
abbrev s__law_draw : Stmt := top 94
abbrev N__law_draw : List Str := ["_law_state", "_law_many_here", "_law_k", "_law_at", "_law_number_here"]
theorem sc__law_draw : FnScope N__law_draw ["_law_state", "_law_many_here"] (defScope s__law_draw) := ⟨rfl, rfl, rfl, by decide +kernel, rfl, by decide +kernel, by decide +kernel⟩
theorem cl__law_draw (F : Df K mg "_law_draw" s__law_draw ["_law_state", "_law_many_here"]) (T : Tx mg) (c__law_mixed : Cl P w K mg base 1 "_law_mixed" sp_mixed) : Cl P w K mg base 2 "_law_draw" sp_draw := by
  refine F.cl sc__law_draw (fun vs H Q E h => by obtain ⟨_, _, _, rfl, _⟩ := h; rfl) (fun f cdv A outer s H vs Q E hr h => ?_)
  have nd := sc__law_draw.nd
  have hu : (A.deeper (envOfC "_law_draw" (defScope s__law_draw) s.heap.objs.size f cdv)).units + 1 < cLine := by have := hr.units; omega
  obtain ⟨z, k, m, rfl, st, hk, h1, h2, q⟩ := h
  have hkM : k + 1 ≤ 1000000000000000 := hk
  refine ⟨_, (pss_cons (ps_dput hu (pv 0) pe_str (pe_op op_add (pe_dget hu (pv 0) pe_str (fun _ _ => rfl)) pe_int) rfl)
    (pss_cons (pset 2 nd (pe_dget hu (pv 0) pe_str (fun _ _ => rfl)))
    (pss_cons (ps_if (pt_cmpR (op_eqEK K hr) (pe_dget hu (pv 0) pe_str (fun _ _ => rfl)) (pe_lst pa_nil) (nomark _)) (pss_one (ps_ret (pe_op op_mod (pe_op op_fdiv (pf c__law_mixed hr (by omega) rfl (pa_cons (pf c__law_mixed hr (by omega) rfl (pa_cons (pe_op op_mul pe_int (pv 2)) (pa_cons (pe_op op_mod (pv 2) pe_int) pa_nil))) (pa_cons pe_int pa_nil))) pe_int) (pv 1)))) pss_nil)
    (pss_cons (pset 3 nd (pe_op op_mod (pv 2) (pe_callB (call_lenK K) rfl T.n_len PySem.boot_len (pa_cons (pe_dget hu (pv 0) pe_str (fun _ _ => rfl)) pa_nil))))
    (pss_cons (ps_if (pt_cmpR op_gt (pe_ix (ix_listK K) (pe_dget hu (pv 0) pe_str (fun _ _ => rfl)) (pv 3) (fun _ _ => rfl)) pe_int (nomark _)) (pss_cons (pset 4 nd (pe_op op_mod (pe_ix (ix_listK K) (pe_dget hu (pv 0) pe_str (fun _ _ => rfl)) (pv 3) (fun _ _ => rfl)) (pv 1)))
      (pss_cons (ps_asg (pe_op op_fdiv (pe_ix (ix_listK K) (pe_dget hu (pv 0) pe_str (fun _ _ => rfl)) (pv 3) (fun _ _ => rfl)) (pv 1)) (pg_sub (pe_dget hu (pv 0) pe_str (fun _ _ => rfl)) (pv 3) set_list))
      (pss_one (ps_ret (pv 4))))) pss_nil)
    (pss_one (ps_ret (pe_op op_mod (pe_op op_fdiv (pf c__law_mixed hr (by omega) rfl (pa_cons (pf c__law_mixed hr (by omega) rfl (pa_cons (pe_op op_add (pe_ix (ix_listK K) (pe_dget hu (pv 0) pe_str (fun _ _ => rfl)) (pv 3) (fun _ _ => rfl)) (pe_op op_mul pe_int (pv 2))) (pa_cons (pe_op op_mod (pv 2) pe_int) pa_nil))) (pa_cons (pe_op op_mod (pv 2) pe_int) pa_nil))) pe_int) (pv 1))))))))), ?_⟩
  obtain ⟨ls, el, hls⟩ := st.l
  have ed := st.d
  have g : ∀ {H' : Hp} {k' : Nat} {kk : Key} {v : V}, H' z.s = some (.dK [(.inr "cells", .ref z.c), (.inr "left", .ref z.l), (.inr "at", .int k')]) → valV [((.inr "cells" : Key), V.ref z.c), (.inr "left", .ref z.l), (.inr "at", .int k')] kk = some v → DGet H' z.s (kV kk) (some v) := fun e hv => by rw [← hv]; exact DGet.k e
  refine ⟨_, rfl, z.s, _, rfl, g ed (get_at z k), _, _, rfl, rfl, _, rfl, z.s, _, rfl, DPut.k (k := .inr "at") ed (by decide : 3 < sizeLine), ?_⟩
  have ed1 : (upd H z.s (.dK (putK [(.inr "cells", .ref z.c), (.inr "left", .ref z.l), (.inr "at", .int k)] (.inr "at") (.int ((k : Int) + 1))))) z.s = some (.dK [(.inr "cells", .ref z.c), (.inr "left", .ref z.l), (.inr "at", .int ((k + 1 : Nat) : Int))]) := upd_same
  have kp1 : Kp z H (upd H z.s (.dK (putK [(.inr "cells", .ref z.c), (.inr "left", .ref z.l), (.inr "at", .int k)] (.inr "at") (.int ((k : Int) + 1))))) := fun b u n _ e => by rw [upd_ne n]; exact e
  have el1 : (upd H z.s (.dK (putK [(.inr "cells", .ref z.c), (.inr "left", .ref z.l), (.inr "at", .int k)] (.inr "at") (.int ((k : Int) + 1))))) z.l = some (.lst (ls.map V.int)) := by rw [upd_ne (Ne.symm st.n1)]; exact el
  generalize (upd H z.s (.dK (putK [(.inr "cells", .ref z.c), (.inr "left", .ref z.l), (.inr "at", .int k)] (.inr "at") (.int ((k : Int) + 1))))) = H1 at *
  obtain ⟨oc, stc⟩ := st.c
  have ec1 : H1 z.c = some (.frz oc (.lst (z.cells.map V.int))) := kp1 _ _ (ne_of stc ed (by intro y; cases y)) (Ne.symm st.n2) stc
  have st1 : St z H1 (k + 1) := ⟨ed1, ⟨oc, ec1⟩, ⟨ls, el1, hls⟩, st.n1, st.n2, st.small⟩
  have dw1 : Dw z 1 H k H1 (k + 1) := ⟨kp1, st1, Nat.le_succ _, Nat.le_refl _⟩
  have fin : ∀ (i : Int) H', Same H1 H' → 0 ≤ i → i < m → Q (.int i) H' := fun i H' s1 a b => q H' i (dw1.same s1) a b
  have mods : ∀ i : Int, 0 ≤ i % m ∧ i % m < m := fun i => ⟨Int.emod_nonneg i (by omega), Int.emod_lt_of_pos i (by omega)⟩
  refine ⟨_, rfl, z.s, _, rfl, g ed1 (get_at z (k + 1)), ?_⟩
  refine ⟨_, rfl, z.s, _, rfl, g ed1 (get_cells z (k + 1)), lsz, fun t ht => ⟨z.c, t, _, rfl, rfl, sqf (up_ne ec1 ht), sql upd_same, _, rfl, ?_⟩⟩
  have s2 : Same H1 (upd H1 t (.lst [])) := (Same.refl _).new ht
  have ed2 := s2 _ _ ed1
  have ec2 := s2 _ _ ec1
  have el2 := s2 _ _ el1
  generalize (upd H1 t (.lst [])) = H2 at *
  have nk50 : (0 : Int) ≤ ((k + 1 : Nat) : Int) % 50 := Int.emod_nonneg _ (by decide)
  have nk50' : ((k + 1 : Nat) : Int) % 50 < 50 := Int.emod_lt_of_pos _ (by decide)
  have nk1 : (0 : Int) ≤ ((k + 1 : Nat) : Int) % 1000 := Int.emod_nonneg _ (by decide)
  have nk1' : ((k + 1 : Nat) : Int) % 1000 < 1000 := Int.emod_lt_of_pos _ (by decide)
  have natk : ∀ {i : Int} {b : Int}, 0 ≤ i → i < b → b ≤ 1000 → ∃ n : Nat, i = (n : Int) ∧ n ≤ KM := fun {i b} h0 h1 h2 => ⟨i.toNat, by omega, by unfold KM; omega⟩
  obtain ⟨n1000, e1000, l1000⟩ := natk nk1 nk1' (by decide)
  obtain ⟨n50, e50, l50⟩ := natk nk50 nk50' (by decide)
  cases hc : z.cells with
  | nil =>
    refine iteT ⟨_, rfl, _, _, rfl, rfl, .inl (by omega), _, rfl, _, _, rfl, rfl, (by decide : (0 : Int) < 1000), _, n1000, by rw [← e1000]; rfl, l1000, fun i h3 h4 => ⟨_, 7, rfl, by unfold KM; decide, fun j h5 h6 => ⟨_, _, rfl, rfl, ⟨by decide, by decide⟩, _, rfl, _, _, rfl, rfl, (show (0 : Int) < m by omega), ?_⟩⟩⟩
    exact fin _ _ s2 (mods _).1 (mods _).2
  | cons x0 xr =>
    have hcl : 0 < z.cells.length := by rw [hc]; exact Nat.succ_pos _
    rw [← hc]
    have hne : ((z.cells.map V.int).isEmpty != false) = false := by rw [hc]; rfl
    rw [hne]
    refine iteF ⟨_, rfl, _, rfl, z.s, _, rfl, g ed2 (get_cells z (k + 1)), .ref z.c, (z.cells.map V.int).length, rfl, .inl ⟨_, sqf ec2, rfl⟩, _, _, rfl, rfl, ?_, ?_⟩
    · show (0 : Int) < ((z.cells.map V.int).length : Int)
      rw [List.length_map]
      omega
    rw [List.length_map]
    obtain ⟨ix, eix, hix⟩ : ∃ ix : Nat, ((k + 1 : Nat) : Int) % (z.cells.length : Int) = (ix : Int) ∧ ix < z.cells.length := ⟨(k + 1) % z.cells.length, by rw [Int.natCast_emod], Nat.mod_lt _ hcl⟩
    have e9 : (fun i j : Int => V.int (i % j)) ((k + 1 : Nat) : Int) (z.cells.length : Int) = V.int (ix : Int) := by
      show V.int (_ % _) = _
      rw [eix]
    simp only [e9]
    have hlx : (ls.map V.int)[ix]? = some (.int (ls[ix]'(by omega))) := by
      rw [List.getElem?_map, List.getElem?_eq_getElem (by omega)]
      rfl
    have hcx : (z.cells.map V.int)[ix]? = some (.int (z.cells[ix]'(by omega))) := by
      rw [List.getElem?_map, List.getElem?_eq_getElem (by omega)]
      rfl
    generalize hlv : ls[ix]'(by omega) = lv at *
    generalize z.cells[ix]'(by omega) = cv at *
    refine ⟨_, rfl, z.s, _, rfl, g ed2 (get_left z (k + 1)), _, rfl, z.l, _, _, _, rfl, rfl, sql el2, atI_nat hlx, _, _, rfl, rfl, _, rfl, ?_⟩
    by_cases hpos : (0 : Int) < lv
    · rw [decide_eq_true hpos]
      refine iteT ⟨_, rfl, z.s, _, rfl, g ed2 (get_left z (k + 1)), _, rfl, z.l, _, _, _, rfl, rfl, sql el2, atI_nat hlx, _, rfl, _, _, rfl, rfl, (show (0 : Int) < m by omega), ?_⟩
      refine ⟨_, rfl, z.s, _, rfl, g ed2 (get_left z (k + 1)), _, rfl, z.l, _, _, _, rfl, rfl, sql el2, atI_nat hlx, _, rfl, _, _, rfl, rfl, ⟨by omega, by omega⟩, ?_⟩
      refine ⟨_, rfl, z.s, _, rfl, g ed2 (get_left z (k + 1)), _, rfl, z.l, _, _, ix, rfl, rfl, el2, ?_, _, rfl, ?_⟩
      · have := ixN_of (n := (ls.map V.int).length) (j := ix) (by rw [List.length_map]; omega)
        exact this
      · have e3 : (ls.map V.int).set ix (.int (lv / m)) = (ls.set ix (lv / m)).map V.int := by rw [List.map_set]
        rw [e3]
        have kp3 : Kp z H2 (upd H2 z.l (.lst ((ls.set ix (lv / m)).map V.int))) := fun b u _ n e => by rw [upd_ne n]; exact e
        refine q _ _ ⟨(kp1.trans (.of s2)).trans kp3, ⟨?_, ?_, ⟨ls.set ix (lv / m), upd_same, by rw [List.length_set]; exact hls⟩, st.n1, st.n2, st.small⟩, Nat.le_succ _, Nat.le_refl _⟩ (mods lv).1 (mods lv).2
        · rw [upd_ne st.n1]
          exact ed2
        · exact ⟨oc, by rw [upd_ne (Ne.symm st.n2)]; exact ec2⟩
    · rw [decide_eq_false hpos]
      refine iteF ⟨_, rfl, z.s, _, rfl, g ed2 (get_cells z (k + 1)), _, rfl, z.c, _, _, _, rfl, rfl, sqf ec2, atI_nat hcx, _, rfl, _, _, rfl, rfl, .inl (by omega), _, _, rfl, rfl, _, rfl, _, _, rfl, rfl, (by decide : (0 : Int) < 1000), _, n1000, by rw [← e1000]; rfl, l1000, fun i h3 h4 => ⟨_, rfl, _, _, rfl, rfl, (by decide : (0 : Int) < 50), _, n50, by rw [← e50]; rfl, l50, fun j h5 h6 => ⟨_, _, rfl, rfl, ⟨by decide, by decide⟩, _, rfl, _, _, rfl, rfl, (show (0 : Int) < m by omega), ?_⟩⟩⟩
      exact fin _ _ s2 (mods _).1 (mods _).2
abbrev s__law_one : Stmt := top 95
abbrev N__law_one : List Str := ["_law_state", "_law_things"]
theorem sc__law_one : FnScope N__law_one ["_law_state", "_law_things"] (defScope s__law_one) := ⟨rfl, rfl, rfl, by decide +kernel, rfl, by decide +kernel, by decide +kernel⟩
theorem cl__law_one (F : Df K mg "_law_one" s__law_one ["_law_state", "_law_things"]) (T : Tx mg) (c__law_draw : Cl P w K mg base 2 "_law_draw" sp_draw) : Cl P w K mg base 3 "_law_one" sp_one := by
  refine F.cl sc__law_one (fun vs H Q E h => by obtain ⟨_, _, _, _, rfl, _⟩ := h; rfl) (fun f cdv A outer s H vs Q E hr h => ?_)
  have nd := sc__law_one.nd
  obtain ⟨z, k, l, xs, rfl, st, hk, el, nl, h1, h2, q⟩ := h
  refine ⟨_, (pss_one (ps_ret (pe_ix (ix_listK K) (pv 1) (pf c__law_draw hr (by omega) rfl (pa_cons (pv 0) (pa_cons (pe_callB (call_lenK K) rfl T.n_len PySem.boot_len (pa_cons (pv 1) pa_nil)) pa_nil))) (fun _ _ => rfl)))), ?_⟩
  refine ⟨_, rfl, _, rfl, _, rfl, .ref l, xs.length, rfl, .inl ⟨xs, sql el, rfl⟩, z, k, _, rfl, st, hk, by omega, by omega, fun H1 i dw h3 h4 => ?_⟩
  have el1 := dw.kp _ _ (ne_of el st.d (by intro y; cases y)) nl el
  obtain ⟨n, rfl⟩ : ∃ n : Nat, i = (n : Int) := ⟨i.toNat, by omega⟩
  have hn : n < xs.length := by omega
  exact ⟨l, xs, _, xs[n], rfl, rfl, sql el1, atI_nat (List.getElem?_eq_getElem hn), q H1 _ dw (List.getElem_mem hn)⟩
end
end K6
set_option maxHeartbeats 4000001
namespace K6
open L2 PySem PySem.Spec PyProof.Rows
theorem St.new {z : Sl} {H : Hp} {k : Nat} {p : Addr} {o : HO} (a : St z H k) (h : H p = none) : St z (upd H p o) k := a.same ((Same.refl H).new h)
theorem Dw.new {z : Sl} {c : Nat} {H H1 : Hp} {k k1 : Nat} {p : Addr} {o : HO} (a : Dw z c H k H1 k1) (h : H1 p = none) : Dw z c H k (upd H1 p o) k1 := a.same ((Same.refl H1).new h)
def CDw (z : Sl) (R : Nat → Hp → V → Prop) (c : Nat) (H1 : Hp) (k : Nat) (D : Addr) (i : Nat) (H : Hp) : Prop :=
  ∃ k', Dw z (i * c) H1 k H k' ∧ ∃ ys, H D = some (.lst ys) ∧ ys.length = i ∧ ∀ (j : Nat) y, ys[j]? = some y → R j H y
theorem St.fresh {z : Sl} {H : Hp} {k : Nat} {D : Addr} (a : St z H k) (h : H D = none) : D ≠ z.s ∧ D ≠ z.l ∧ D ≠ z.c := by
  obtain ⟨ls, hl, _⟩ := a.l
  obtain ⟨_, hc⟩ := a.c
  have key : ∀ {a : Addr} {o : HO}, H a = some o → D ≠ a := fun e z => by
    rw [z, e] at h
    cases h
  exact ⟨key a.d, key hl, key hc⟩
section
variable {z : Sl} {R : Nat → Hp → V → Prop} {c : Nat} {H1 : Hp} {k : Nat} {D : Addr}
theorem cdw_start (a : St z H1 k) (hD : H1 D = none) : CDw z R c H1 k D 0 (upd H1 D (.lst [])) := by
  have s : Same H1 (upd H1 D (.lst [])) := (Same.refl _).new hD
  refine ⟨k, ((Dw.refl a).same s).up (by omega), [], upd_same, rfl, fun j y h => by simp at h⟩
theorem cdw_step (hR : ∀ j H H' v, Gr H H' → R j H v → R j H' v) (a : St z H1 k) (hD : H1 D = none) {i : Nat} {H H4 : Hp} {y : V} {k1 k2 : Nat} (hz : i ≤ 1000)
    (d : Dw z (i * c) H1 k H k1) {ys : List V} (e : H D = some (.lst ys)) (hl : ys.length = i) (ry : ∀ (j : Nat) y, ys[j]? = some y → R j H y) (d2 : Dw z c H k1 H4 k2) (r : R i H4 y) :
    ∃ acc, H4 D = some (.lst acc) ∧ acc.length < sizeLine ∧ CDw z R c H1 k D (i + 1) (upd H4 D (.lst (acc ++ [y]))) := by
  obtain ⟨n0, n1, n2⟩ := a.fresh hD
  have e4 := d2.kp _ _ n0 n1 e
  have g : Gr H4 (upd H4 D (.lst (ys ++ [y]))) := gr_put e4
  have g0 : Gr H (upd H4 D (.lst (ys ++ [y]))) := (d2.gr d.st).trans g
  have d3 := d.trans d2
  refine ⟨ys, e4, sizes (by omega), k2, ⟨d3.kp.put hD, d3.st.put e4 n1 n2, d3.ge, ?_⟩, _, upd_same, by rw [List.length_append, hl]; rfl, fun j v h => ?_⟩
  · have := d3.le
    have e5 : (i + 1) * c = i * c + c := Nat.succ_mul _ _
    omega
  · by_cases hj : j < ys.length
    · rw [List.getElem?_append_left hj] at h
      exact hR _ _ _ _ g0 (ry j v h)
    · rw [List.getElem?_append_right (by omega)] at h
      have e5 : j - ys.length = 0 := by
        cases e6 : j - ys.length with
        | zero => rfl
        | succ n => rw [e6] at h; simp at h
      rw [e5] at h
      cases h
      have e6 : j = i := by omega
      rw [e6]
      exact hR _ _ _ _ g r
end
theorem joinE (l : List (List Nat)) : Txt.join (Str.ofString "") (l.map S) = S l.flatten := by
  have key : ∀ l : List (List Nat), TL.joinL [] l = l.flatten := by
    intro l
    induction l with
    | nil => rfl
    | cons p r ih => cases r with
      | nil => simp [TL.joinL]
      | cons q r => rw [TL.joinL, ih]; simp
  rw [TL.join_eq, ← SX.S_tl (Str.join _ _)]
  show S (TL.tl (Str.join _ _)) = _
  rw [TL.tl_join, List.map_map]
  have e : (l.map (TL.tl ∘ S)) = l := by
    rw [show (TL.tl ∘ S) = id from rfl, List.map_id]
  rw [e]
  show S (TL.joinL (TL.tl (Str.ofString "")) l) = _
  rw [show TL.tl (Str.ofString "") = [] by decide +kernel, key]
def sp_word : Sp := fun vs H Q _ => ∃ (z : Sl) (k : Nat), vs = [.ref z.s] ∧ St z H k ∧ k + 10 ≤ KM ∧ ∀ H' k' w, Dw z 10 H k H' k' → isNm w = true → Q (.str (S w)) H'
def sp_oneS : Sp := fun vs H Q _ => ∃ (z : Sl) (k : Nat) (l : List Nat), vs = [.ref z.s, .str (S l)] ∧ St z H k ∧ k + 1 ≤ KM ∧ 1 ≤ l.length ∧ l.length ≤ 1000 ∧ ∀ H' c, Dw z 1 H k H' (k + 1) → c ∈ l → Q (.str (S [c])) H'
section
variable {P : Program}
variable {w : World} {K : PySem.W.Frag} {mg : Str → Option Value} {base : Heap}
theorem cl__law_oneS (F : Df K mg "_law_one" s__law_one ["_law_state", "_law_things"]) (T : Tx mg) (c__law_draw : Cl P w K mg base 2 "_law_draw" sp_draw) : Cl P w K mg base 3 "_law_one" sp_oneS := by
  refine F.cl sc__law_one (fun vs H Q E h => by obtain ⟨_, _, _, rfl, _⟩ := h; rfl) (fun f cdv A outer s H vs Q E hr h => ?_)
  have nd := sc__law_one.nd
  obtain ⟨z, k, l, rfl, st, hk, h1, h2, q⟩ := h
  refine ⟨_, (pss_one (ps_ret (pe_ix ix_str (pv 1) (pf c__law_draw hr (by omega) rfl (pa_cons (pv 0) (pa_cons (pe_callB (call_lenK K) rfl T.n_len PySem.boot_len (pa_cons (pv 1) pa_nil)) pa_nil))) (fun _ _ => rfl)))), ?_⟩
  refine ⟨_, rfl, _, rfl, _, rfl, .str (S l), l.length, rfl, ⟨by rw [S_len]; exact sizes' (by omega), by rw [S_len]⟩, z, k, _, rfl, st, hk, by omega, by omega, fun H1 i dw h3 h4 => ?_⟩
  obtain ⟨n, rfl⟩ : ∃ n : Nat, i = (n : Int) := ⟨i.toNat, by omega⟩
  have hn : n < l.length := by omega
  exact ⟨S l, _, l[n], rfl, rfl, by rw [S_len]; exact sizes' (by omega), atI_nat (List.getElem?_eq_getElem hn), q H1 _ dw (List.getElem_mem hn)⟩
def ownW : List String := ["just", "some", "from", "mix", "all", "row", "turn", "keep", "let", "var", "upto", "times", "grow"]
def ownW2 : List String := ["again", "even", "neg", "size", "unlike", "x", "y", "thing", "miss", "long"]
theorem ownW_nm : ∀ s ∈ ownW ++ ownW2, isNm (W s) = true := by decide +kernel
abbrev s__law_word : Stmt := top 96
abbrev N__law_word : List Str := ["_law_state", "_law_own_here", "_law_letters", "_law_k"]
theorem sc__law_word : FnScope N__law_word ["_law_state"] (defScope s__law_word) := ⟨rfl, rfl, rfl, by decide +kernel, rfl, by decide +kernel, by decide +kernel⟩
theorem cl__law_word (F : Df K mg "_law_word" s__law_word ["_law_state"]) (T : Tx mg) (c__law_draw : Cl P w K mg base 2 "_law_draw" sp_draw) (c__law_one : Cl P w K mg base 3 "_law_one" sp_one) (c__law_oneS : Cl P w K mg base 3 "_law_one" sp_oneS) : Cl P w K mg base 4 "_law_word" sp_word := by
  refine F.cl sc__law_word (fun vs H Q E h => by obtain ⟨_, _, rfl, _⟩ := h; rfl) (fun f cdv A outer s H vs Q E hr h => ?_)
  have nd := sc__law_word.nd
  obtain ⟨z, k, rfl, st, hk, q⟩ := h
  refine ⟨_, (pss_cons (ps_if (pt_cmpR op_eq (pf c__law_draw hr (by omega) rfl (pa_cons (pv 0) (pa_cons pe_int pa_nil))) pe_int (nomark _)) (pss_cons (pset 1 nd (pe_lst (pa_cons pe_str (pa_cons pe_str (pa_cons pe_str (pa_cons pe_str (pa_cons pe_str (pa_cons pe_str (pa_cons pe_str (pa_cons pe_str (pa_cons pe_str (pa_cons pe_str (pa_cons pe_str (pa_cons pe_str (pa_cons pe_str pa_nil)))))))))))))))
      (pss_one (ps_ret (pf c__law_one hr (by omega) rfl (pa_cons (pv 0) (pa_cons (pe_op op_cat (pv 1) (pe_lst (pa_cons pe_str (pa_cons pe_str (pa_cons pe_str (pa_cons pe_str (pa_cons pe_str (pa_cons pe_str (pa_cons pe_str (pa_cons pe_str (pa_cons pe_str (pa_cons pe_str pa_nil)))))))))))) pa_nil)))))) pss_nil)
    (pss_cons (pset 2 nd pe_str)
    (pss_one (ps_ret (pe_join pe_str (pe_lc (own := [("_law_k", 3)]) rfl nd (pi_range1 rfl T.n_range (pa_cons (pe_op op_add pe_int (pf c__law_draw hr (by omega) rfl (pa_cons (pv 0) (pa_cons pe_int pa_nil)))) pa_nil)) (blkOk_by (own := [("_law_k", 3)]) (N := N__law_word) (sc := defScope s__law_word) (by decide +kernel)) (fun _ _ _ _ _ => (pgn 3 nd)) (fun _ _ _ _ _ => pts_nil) (fun _ _ _ _ _ => (pf c__law_oneS hr (by omega) rfl (pa_cons (pv 0) (pa_cons (pv 2) pa_nil)))))))))), ?_⟩
  refine ⟨_, rfl, z, k, _, rfl, st, by omega, by decide, by decide, fun H1 i dw h3 h4 => ?_⟩
  refine ⟨rfl, _, rfl, ?_⟩
  cases hd : decide (V.int i = V.int 0) with
  | true =>
    refine iteT ⟨lsz, fun t1 ht1 => ⟨_, rfl, _, rfl, lsz, fun t2 ht2 => ⟨t1, t2, _, _, rfl, rfl, up_ne upd_same ht2, upd_same, lsz, fun t3 ht3 => ?_⟩⟩⟩
    refine ⟨z, k + 1, t3, _, rfl, ((dw.st.new ht1).new ht2).new ht3, by omega, upd_same, (((dw.st.new ht1).new ht2).fresh ht3).2.1, by decide, by decide, fun H2 x dw2 hx => ?_⟩
    obtain ⟨s, hs, rfl⟩ : ∃ s, s ∈ ownW ++ ownW2 ∧ x = V.str (Str.ofString s) := by
      have e : x ∈ (ownW ++ ownW2).map (fun s => V.str (Str.ofString s)) := hx
      obtain ⟨s, hs, e⟩ := List.mem_map.mp e
      exact ⟨s, hs, e.symm⟩
    rw [← S_W]
    exact q _ _ _ (((((dw.new ht1).new ht2).new ht3).trans dw2).up (by omega)) (ownW_nm s hs)
  | false =>
    refine iteF ⟨⟨_, rfl⟩, _, rfl, z, k + 1, _, rfl, dw.st, by omega, by decide, by decide, fun H2 n dw2 h5 h6 => ⟨_, _, rfl, rfl, _, rfl, by omega, by omega, fun D hD => ?_⟩⟩
    obtain ⟨m, rfl⟩ : ∃ m : Nat, n = (m : Int) := ⟨n.toNat, by omega⟩
    have em : ((1 : Int) + (m : Int)).toNat = m + 1 := by omega
    rw [em]
    refine lc_it (walk_range (lo := 0) (n := m + 1)) (CDw z (fun _ _ v => ∃ c, c ∈ smallL ∧ v = V.str (S [c])) 1 H2 (k + 2) D) (cdw_start dw2.st hD) (fun _ _ _ _ => trivial) ?_ ?_
    · rintro i' x H3 H4 hi ⟨k3, d3, ys, ey, ly, ry⟩ ⟨rfl, hx⟩
      refine ⟨rfl, _, rfl, _, rfl, z, k3, smallL, rfl, d3.st, ?_, by decide, by decide, fun H5 c dw5 hc => ?_⟩
      · have := d3.le
        omega
      · exact cdw_step (fun _ _ _ _ _ r => r) dw2.st hD (by omega) d3 ey ly ry dw5 ⟨c, hc, rfl⟩
    · rintro H3 ⟨k3, d3, ys, ey, ly, ry⟩
      obtain ⟨cs, rfl, hcs⟩ : ∃ cs : List Nat, ys = cs.map (fun c => V.str (S [c])) ∧ ∀ c ∈ cs, c ∈ smallL := by
        clear ey ly
        induction ys with
        | nil => exact ⟨[], rfl, fun c h => by cases h⟩
        | cons y r ih =>
          obtain ⟨c, hc, rfl⟩ := ry 0 y rfl
          obtain ⟨cs, rfl, h⟩ := ih fun j y h => ry (j + 1) y h
          exact ⟨c :: cs, rfl, fun d hd => by
            rcases List.mem_cons.mp hd with e | hd
            · rw [e]; exact hc
            · exact h d hd⟩
      rw [List.length_map] at ly
      have e1 : (cs.map fun c => V.str (S [c])) = ((cs.map fun c => [c]).map S).map V.str := by rw [List.map_map, List.map_map]; rfl
      rw [e1] at ey
      refine ⟨_, D, (cs.map fun c => [c]).map S, rfl, rfl, .inl (sql ey), ?_, ?_⟩
      · rw [List.map_map, List.map_map, List.length_map, List.length_map]
        have e2 : (cs.map (((fun x : Str => x.length) ∘ S) ∘ fun c => [c])) = List.replicate cs.length 1 := by
          rw [List.eq_replicate_iff]
          exact ⟨List.length_map .., fun b hb => by
            obtain ⟨c, _, rfl⟩ := List.mem_map.mp hb
            exact S_len _⟩
        rw [e2, List.sum_replicate_nat, show (Str.ofString "").length = 0 by decide +kernel]
        omega
      · rw [joinE]
        have e3 : (cs.map fun c => [c]).flatten = cs := by
          clear e1 ey ly ry hcs
          induction cs with
          | nil => rfl
          | cons c r ih => rw [List.map_cons, List.flatten_cons, ih]; rfl
        rw [e3]
        refine q _ _ _ ((dw.trans (dw2.trans d3)).up (by omega)) ?_
        unfold isNm
        rw [decide_eq_true (by omega), decide_eq_true (by omega), Bool.true_and, Bool.true_and, List.all_eq_true]
        exact fun c hc => decide_eq_true (hcs c hc)
end
end K6
set_option maxHeartbeats 4000001
namespace K6
open L2 PySem PySem.Spec PyProof.Rows
def gd4 (d : D) : Bool := gd (10 ^ 30) d && match d with | .tup ds => decide (ds.length ≤ 4) | _ => true
theorem tok_up {g : D → Bool} : ∀ {n : Nat} {d : D}, tok g n d = true → tok g (n + 1) d = true ∧ cnt (n + 1) d = cnt n d
  | 0, _, h => by cases h
  | n + 1, .tup ds, h => by
    have h1 : (g (.tup ds) && ds.all (tok g n)) = true := h
    rw [Bool.and_eq_true, List.all_eq_true] at h1
    refine ⟨?_, ?_⟩
    · show (g (.tup ds) && ds.all (tok g (n + 1))) = true
      rw [h1.1, Bool.true_and, List.all_eq_true]
      exact fun d hd => (tok_up (h1.2 d hd)).1
    · show 1 + (ds.map (cnt (n + 1))).sum = 1 + (ds.map (cnt n)).sum
      rw [List.map_congr_left fun d hd => (tok_up (h1.2 d hd)).2]
  | n + 1, .int _, h => ⟨h, rfl⟩
  | n + 1, .str _, h => ⟨h, rfl⟩
  | n + 1, .bl _, h => ⟨h, rfl⟩
  | n + 1, .non, h => ⟨h, rfl⟩
  | n + 1, .oth, h => ⟨h, rfl⟩
theorem tok_ups {g : D → Bool} {n m : Nat} {d : D} (h : tok g n d = true) (l : n ≤ m) : tok g m d = true ∧ cnt m d = cnt n d := by
  induction l with
  | refl => exact ⟨h, rfl⟩
  | step _ ih => exact ⟨(tok_up ih.1).1, (tok_up ih.1).2.trans ih.2⟩
theorem tok_imp {g g' : D → Bool} (hg : ∀ d, g d = true → g' d = true) : ∀ {n : Nat} {d : D}, tok g n d = true → tok g' n d = true
  | 0, _, h => by cases h
  | n + 1, .tup ds, h => by
    have h1 : (g (.tup ds) && ds.all (tok g n)) = true := h
    rw [Bool.and_eq_true, List.all_eq_true] at h1
    show (g' (.tup ds) && ds.all (tok g' n)) = true
    rw [hg _ h1.1, Bool.true_and, List.all_eq_true]
    exact fun d hd => tok_imp hg (h1.2 d hd)
  | n + 1, .int _, h => hg _ h
  | n + 1, .str _, h => hg _ h
  | n + 1, .bl _, h => hg _ h
  | n + 1, .non, h => hg _ h
  | n + 1, .oth, h => hg _ h
theorem gd4_gd {d : D} (h : gd4 d = true) : gd (10 ^ 30) d = true := by
  unfold gd4 at h
  rw [Bool.and_eq_true] at h
  exact h.1
theorem tok4 {n : Nat} {d : D} (h : tok gd4 n d = true) : tok (gd (10 ^ 30)) n d = true := tok_imp (fun _ => gd4_gd) h
theorem ex_reps {H : Hp} {Pd : Nat → D → Prop} : ∀ {ys : List V}, (∀ (j : Nat) y, ys[j]? = some y → ∃ d, Rep H y d ∧ Pd j d) → ∃ ds, Reps H ys ds ∧ ∀ (j : Nat) d, ds[j]? = some d → Pd j d := by
  intro ys
  induction ys generalizing Pd with
  | nil => exact fun _ => ⟨[], Reps.nil, fun j d h => by simp at h⟩
  | cons y r ih =>
    intro h
    obtain ⟨d, rd, pd⟩ := h 0 y rfl
    obtain ⟨ds, rs, ps⟩ := ih (Pd := fun j => Pd (j + 1)) fun j y hy => h (j + 1) y hy
    refine ⟨d :: ds, Reps.cons rd rs, fun j e he => ?_⟩
    cases j with
    | zero => cases he; exact pd
    | succ j => exact ps j e he
theorem reps_tup {H : Hp} {a : Addr} {ys : List V} {ds : List D} (e : H a = some (.tup ys)) (r : Reps H ys ds) : Rep H (.ref a) (.tup ds) := .tup e r.1 r.2
theorem nle {a b : Nat} (h : Nat.ble a b = true := by rfl) : a ≤ b := Nat.le_of_ble_eq_true h
def tC : Nat → Nat
  | 0 => 11
  | n + 1 => 11 + 4 * tC n
theorem isNm_len {w : List Nat} (h : isNm w = true) : w.length ≤ 1000000 := by
  unfold isNm at h
  rw [Bool.and_eq_true, Bool.and_eq_true, decide_eq_true_eq, decide_eq_true_eq] at h
  omega
theorem tC_mono {n m : Nat} (h : n ≤ m) : tC n ≤ tC m := by
  induction h with
  | refl => exact Nat.le_refl _
  | step _ ih => exact Nat.le_trans ih (by show _ ≤ 11 + 4 * _; omega)
theorem tC5 : tC 5 ≤ 15018 := by decide
theorem tC_le (n : Nat) : 11 ≤ tC n := by cases n <;> simp [tC]
def B30 : Int := 1000000000000000000000000000000
def sp_number : Sp := fun vs H Q _ => ∃ (z : Sl) (k : Nat), vs = [.ref z.s] ∧ St z H k ∧ k + 8 ≤ KM ∧ ∀ H' k' i, Dw z 8 H k H' k' → -B30 < i → i < B30 → Q (.int i) H'
def sp_thing (N : Nat) : Sp := fun vs H Q _ => ∃ (z : Sl) (k n : Nat), vs = [.ref z.s, .int n] ∧ n ≤ N ∧ St z H k ∧ k + tC n ≤ KM ∧ ∀ H' k' v d, Dw z (tC n) H k H' k' → Rep H' v d → tok gd4 (n + 1) d = true → Q v H'
section
variable {P : Program}
variable {w : World} {K : PySem.W.Frag} {mg : Str → Option Value} {base : Heap}
abbrev s__law_number : Stmt := top 97
abbrev N__law_number : List Str := ["_law_state", "_law_great", "_law_some"]
theorem sc__law_number : FnScope N__law_number ["_law_state"] (defScope s__law_number) := ⟨rfl, rfl, rfl, by decide +kernel, rfl, by decide +kernel, by decide +kernel⟩
theorem cl__law_number (F : Df K mg "_law_number" s__law_number ["_law_state"]) (T : Tx mg) (c__law_draw : Cl P w K mg base 2 "_law_draw" sp_draw) (c__law_one : Cl P w K mg base 3 "_law_one" sp_one) : Cl P w K mg base 4 "_law_number" sp_number := by
  refine F.cl sc__law_number (fun vs H Q E h => by obtain ⟨_, _, rfl, _⟩ := h; rfl) (fun f cdv A outer s H vs Q E hr h => ?_)
  have nd := sc__law_number.nd
  obtain ⟨z, k, rfl, st, hk, q⟩ := h
  refine ⟨_, (pss_cons (pset 1 nd (pe_op op_add (pe_op op_add (pe_op op_mul (pf c__law_draw hr (by omega) rfl (pa_cons (pv 0) (pa_cons (pe_op op_pow pe_int pe_int) pa_nil))) (pe_op op_pow pe_int pe_int)) (pe_op op_mul (pf c__law_draw hr (by omega) rfl (pa_cons (pv 0) (pa_cons (pe_op op_pow pe_int pe_int) pa_nil))) (pe_op op_pow pe_int pe_int))) (pf c__law_draw hr (by omega) rfl (pa_cons (pv 0) (pa_cons (pe_op op_pow pe_int pe_int) pa_nil)))))
    (pss_cons (pset 2 nd (pe_lst (pa_cons (pf c__law_draw hr (by omega) rfl (pa_cons (pv 0) (pa_cons pe_int pa_nil))) (pa_cons (pf c__law_draw hr (by omega) rfl (pa_cons (pv 0) (pa_cons pe_int pa_nil))) (pa_cons (pf c__law_draw hr (by omega) rfl (pa_cons (pv 0) (pa_cons pe_int pa_nil))) (pa_cons (pv 1) (pa_cons (pe_op op_sub (pe_op op_pow pe_int pe_int) pe_int) pa_nil)))))))
    (pss_one (ps_ret (pe_op op_mul (pf c__law_one hr (by omega) rfl (pa_cons (pv 0) (pa_cons (pv 2) pa_nil))) (pf c__law_one hr (by omega) rfl (pa_cons (pv 0) (pa_cons (pe_lst (pa_cons pe_int (pa_cons pe_int (pa_cons (pe_un un_neg pe_int) pa_nil)))) pa_nil)))))))), ?_⟩
  refine ⟨_, rfl, _, _, rfl, rfl, ⟨by decide, by decide, by decide⟩, z, k, _, rfl, st, by omega, by decide, by decide, fun H1 i1 d1 h1 h1' => ?_⟩
  refine ⟨_, _, rfl, rfl, ⟨by decide, by decide, by decide⟩, _, _, rfl, rfl, .inl ⟨by omega, Int.lt_trans h1' (by decide)⟩, ?_⟩
  refine ⟨_, rfl, _, _, rfl, rfl, ⟨by decide, by decide, by decide⟩, z, k + 1, _, rfl, d1.st, by omega, by decide, by decide, fun H2 i2 d2 h2 h2' => ?_⟩
  refine ⟨_, _, rfl, rfl, ⟨by decide, by decide, by decide⟩, _, _, rfl, rfl, .inl ⟨by omega, Int.lt_trans h2' (by decide)⟩, _, _, rfl, rfl, ?_⟩
  refine ⟨_, rfl, _, _, rfl, rfl, ⟨by decide, by decide, by decide⟩, z, k + 2, _, rfl, d2.st, by omega, by decide, by decide, fun H3 i3 d3 h3 h3' => ⟨_, _, rfl, rfl, ?_⟩⟩
  have l1 : i1 < 1000000 := h1'
  have l2 : i2 < 1000000 := h2'
  have l3 : i3 < 1000000 := h3'
  have big : ∀ i : Int, i = i1 * 10 ^ (24 : Int).toNat + i2 * 10 ^ (12 : Int).toNat + i3 → 0 ≤ i ∧ i < B30 := by
    intro i e
    rw [show (10 : Int) ^ (24 : Int).toNat = 1000000000000000000000000 by decide, show (10 : Int) ^ (12 : Int).toNat = 1000000000000 by decide] at e
    unfold B30
    omega
  have bg := big _ rfl
  refine ⟨_, rfl, z, k + 3, _, rfl, d3.st, by omega, by decide, by decide, fun H4 i4 d4 h4 h4' => ?_⟩
  refine ⟨_, rfl, z, k + 4, _, rfl, d4.st, by omega, by decide, by decide, fun H5 i5 d5 h5 h5' => ?_⟩
  refine ⟨_, rfl, z, k + 5, _, rfl, d5.st, by omega, by decide, by decide, fun H6 i6 d6 h6 h6' => ?_⟩
  refine ⟨_, rfl, _, _, rfl, rfl, ⟨by decide, by decide, by decide⟩, _, _, rfl, rfl, lsz, fun t1 ht1 => ?_⟩
  refine ⟨_, rfl, _, rfl, z, k + 6, t1, _, rfl, d6.st.new ht1, by omega, upd_same, (d6.st.fresh ht1).2.1, nle, nle, fun H7 x7 d7 hx7 => ?_⟩
  obtain ⟨j7, rfl, b7⟩ : ∃ j, x7 = V.int j ∧ 0 ≤ j ∧ j < B30 := by
    have e : x7 ∈ ([i4, i5, i6, i1 * 10 ^ (24 : Int).toNat + i2 * 10 ^ (12 : Int).toNat + i3, 10 ^ (30 : Int).toNat - 1] : List Int).map V.int := hx7
    generalize i1 * 10 ^ (24 : Int).toNat + i2 * 10 ^ (12 : Int).toNat + i3 = g at *
    unfold B30 at bg ⊢
    obtain ⟨j, hj, e⟩ := List.mem_map.mp e
    refine ⟨j, e.symm, ?_⟩
    rw [show (10 : Int) ^ (30 : Int).toNat = 1000000000000000000000000000000 by decide] at hj
    simp only [List.mem_cons, List.not_mem_nil, or_false] at hj
    omega
  refine ⟨_, rfl, _, rfl, lsz, fun t2 ht2 => ⟨z, k + 7, t2, _, rfl, d7.st.new ht2, by omega, upd_same, (d7.st.fresh ht2).2.1, by decide, by decide, fun H8 x8 d8 hx8 => ?_⟩⟩
  obtain ⟨j8, rfl, b8⟩ : ∃ j, x8 = V.int j ∧ (j = 1 ∨ j = -1) := by
    have e : x8 ∈ ([1, 1, -1] : List Int).map V.int := hx8
    obtain ⟨j, hj, e⟩ := List.mem_map.mp e
    refine ⟨j, e.symm, ?_⟩
    simp at hj
    omega
  refine ⟨_, _, rfl, rfl, .inr (by omega), ?_⟩
  refine q _ _ _ ((d1.trans (d2.trans (d3.trans (d4.trans (d5.trans (((d6.new ht1).trans ((d7.new ht2).trans d8)))))))).up (by omega)) ?_ ?_
  · rcases b8 with rfl | rfl <;> omega
  · rcases b8 with rfl | rfl <;> omega
abbrev s__law_thing : Stmt := top 98
abbrev N__law_thing : List Str := ["_law_state", "_law_deep", "_law_way", "_law_k"]
theorem sc__law_thing : FnScope N__law_thing ["_law_state", "_law_deep"] (defScope s__law_thing) := ⟨rfl, rfl, rfl, by decide +kernel, rfl, by decide +kernel, by decide +kernel⟩
theorem cl__law_thing1 (F : Df K mg "_law_thing" s__law_thing ["_law_state", "_law_deep"]) (T : Tx mg) (c__law_draw : Cl P w K mg base 2 "_law_draw" sp_draw) (c__law_word : Cl P w K mg base 4 "_law_word" sp_word) (c__law_number : Cl P w K mg base 4 "_law_number" sp_number)
    (N : Nat) (c__law_thing : Cl P w K mg base (N + 4) "_law_thing" (fun vs H Q E => ∃ M, N = M + 1 ∧ sp_thing M vs H Q E)) : Cl P w K mg base (N + 5) "_law_thing" (sp_thing N) := by
  refine F.cl sc__law_thing (fun vs H Q E h => by obtain ⟨_, _, _, rfl, _⟩ := h; rfl) (fun f cdv A outer s H vs Q E hr h => ?_)
  have nd := sc__law_thing.nd
  obtain ⟨z, k, n, rfl, hn, st, hk, q⟩ := h
  cases n with
  | zero =>
    refine ⟨_, (pss_cons (pset 2 nd (pf c__law_draw hr (by omega) rfl (pa_cons (pv 0) (pa_cons pe_int pa_nil))))
      (pss_cons (ps_if (PW.pt (pw_or (pt_cmpR op_eq (pv 1) pe_int (nomark _)) (pw_or1 (pt_cmpR op_lt (pv 2) pe_int (nomark _))))) (pss_one (ps_ret (pe_ifExp (pt_cmpR op_eq (pv 2) pe_int (nomark _)) (pf c__law_word hr (by omega) rfl (pa_cons (pv 0) pa_nil)) (pf c__law_number hr (by omega) rfl (pa_cons (pv 0) pa_nil))))) pss_nil)
      (pss_one (ps_ret (pe_callTy (call_tupK K) rfl T.n_tuple bt_tuple (pa_cons (pe_lc (own := [("_law_k", 3)]) rfl nd (pi_range1 rfl T.n_range (pa_cons (pf c__law_draw hr (by omega) rfl (pa_cons (pv 0) (pa_cons pe_int pa_nil))) pa_nil)) (blkOk_by (own := [("_law_k", 3)]) (N := N__law_thing) (sc := defScope s__law_thing) (by decide +kernel)) (fun _ _ _ _ _ => (pgn 3 nd)) (fun _ _ _ _ _ => pts_nil) (fun _ _ _ _ _ => (pf c__law_thing hr (by omega) rfl (pa_cons (pv 0) (pa_cons (pe_op op_sub (pv 1) pe_int) pa_nil))))) pa_nil)))))), ?_⟩
    unfold tC at *
    refine ⟨_, rfl, z, k, _, rfl, st, by omega, by decide, by decide, fun H1 i d1 h1 h1' => ?_⟩
    (refine ⟨_, rfl, rfl, _, rfl, ?_⟩)
    refine iteT ⟨_, rfl, rfl, _, rfl, ?_⟩
    cases hd : decide (V.int i = V.int 1) with
    | true => exact iteT ⟨_, rfl, z, k + 1, rfl, d1.st, by omega, fun H2 k2 w d2 hw => q _ _ _ (.str w) ((d1.trans d2).up (by omega)) (.str w (isNm_len hw)) (by show gd4 _ = true; unfold gd4; rw [Bool.and_true]; exact hw)⟩
    | false => exact iteF ⟨_, rfl, z, k + 1, rfl, d1.st, by omega, fun H2 k2 i d2 hi1 hi2 => q _ _ _ (.int i) ((d1.trans d2).up (by omega)) (.int i) (by
        show gd4 _ = true
        unfold gd4
        rw [Bool.and_true]
        show (decide (-(10 ^ 30) < i) && decide (i < 10 ^ 30)) = true
        unfold B30 at hi1 hi2
        rw [decide_eq_true (by omega), decide_eq_true (by omega)]
        rfl)⟩
  | succ n =>
    have l11 := tC_le n
    have eC : tC (n + 1) = 11 + 4 * tC n := rfl
    refine ⟨_, (pss_cons (pset 2 nd (pf c__law_draw hr (by omega) rfl (pa_cons (pv 0) (pa_cons pe_int pa_nil))))
      (pss_cons (ps_if (PW.pt (pw_or (pt_cmpR op_eq (pv 1) pe_int (nomark _)) (pw_or1 (pt_cmpR op_lt (pv 2) pe_int (nomark _))))) (pss_one (ps_ret (pe_ifExp (pt_cmpR op_eq (pv 2) pe_int (nomark _)) (pf c__law_word hr (by omega) rfl (pa_cons (pv 0) pa_nil)) (pf c__law_number hr (by omega) rfl (pa_cons (pv 0) pa_nil))))) pss_nil)
      (pss_one (ps_ret (pe_callTy (call_tupK K) rfl T.n_tuple bt_tuple (pa_cons (pe_lc (own := [("_law_k", 3)]) rfl nd (pi_range1 rfl T.n_range (pa_cons (pf c__law_draw hr (by omega) rfl (pa_cons (pv 0) (pa_cons pe_int pa_nil))) pa_nil)) (blkOk_by (own := [("_law_k", 3)]) (N := N__law_thing) (sc := defScope s__law_thing) (by decide +kernel)) (fun _ _ _ _ _ => (pgn 3 nd)) (fun _ _ _ _ _ => pts_nil) (fun _ _ _ _ _ => (pf c__law_thing hr (by omega) rfl (pa_cons (pv 0) (pa_cons (pe_op op_sub (pv 1) pe_int) pa_nil))))) pa_nil)))))), ?_⟩
    refine ⟨_, rfl, z, k, _, rfl, st, by omega, by decide, by decide, fun H1 i d1 h1 h1' => ?_⟩
    (refine ⟨_, rfl, rfl, _, rfl, ?_⟩)
    rw [decide_eq_false (show ¬ V.int ((n + 1 : Nat) : Int) = V.int 0 from fun e => by have := V.int.inj e; omega)]
    refine iteF ⟨_, rfl, _, _, rfl, rfl, _, rfl, ?_⟩
    cases hw : decide (i < 3) with
    | true =>
      refine iteT ⟨_, rfl, rfl, _, rfl, ?_⟩
      cases hd : decide (V.int i = V.int 1) with
      | true => exact iteT ⟨_, rfl, z, k + 1, rfl, d1.st, by omega, fun H2 k2 w d2 hw => q _ _ _ (.str w) ((d1.trans d2).up (by omega)) (.str w (isNm_len hw)) (by show gd4 _ = true; unfold gd4; rw [Bool.and_true]; exact hw)⟩
      | false => exact iteF ⟨_, rfl, z, k + 1, rfl, d1.st, by omega, fun H2 k2 i d2 hi1 hi2 => q _ _ _ (.int i) ((d1.trans d2).up (by omega)) (.int i) (by
          show gd4 _ = true
          unfold gd4
          rw [Bool.and_true]
          show (decide (-(10 ^ 30) < i) && decide (i < 10 ^ 30)) = true
          unfold B30 at hi1 hi2
          rw [decide_eq_true (by omega), decide_eq_true (by omega)]
          rfl)⟩
    | false =>
      refine iteF ⟨_, rfl, z, k + 1, _, rfl, d1.st, by omega, by decide, by decide, fun H2 j d2 h2 h2' => ⟨_, rfl, by omega, by omega, fun D hD => ?_⟩⟩
      obtain ⟨m, rfl⟩ : ∃ m : Nat, j = (m : Int) := ⟨j.toNat, by omega⟩
      have hm : m ≤ 4 := by omega
      rw [Int.toNat_natCast]
      have mle : m * tC n ≤ 4 * tC n := Nat.mul_le_mul_right _ hm
      refine lc_it (walk_range (lo := 0) (n := m)) (CDw z (fun _ H v => ∃ d, Rep H v d ∧ tok gd4 (n + 1) d = true) (tC n) H2 (k + 2) D) (cdw_start d2.st hD) (fun _ _ _ _ => trivial) ?_ ?_
      · rintro i' x H3 H4 hi ⟨k3, d3, ys, ey, ly, ry⟩ ⟨rfl, hx⟩
        refine ⟨rfl, _, rfl, _, rfl, _, _, rfl, rfl, N - 1, by omega, z, k3, n, ?_, by omega, d3.st, ?_, fun H5 k5 v d d5 hv hd => ?_⟩
        · show [V.ref z.s, V.int (((n + 1 : Nat) : Int) - 1)] = _
          rw [show ((n + 1 : Nat) : Int) - 1 = (n : Int) by omega]
        · have := d3.le
          have : i' * tC n + tC n ≤ m * tC n := by
            rw [← Nat.succ_mul]
            exact Nat.mul_le_mul_right _ hi
          omega
        · exact cdw_step (fun _ _ _ _ g ⟨d, r, t⟩ => ⟨d, r.gr g, t⟩) d2.st hD (by omega) d3 ey ly ry d5 ⟨d, hv, hd⟩
      · rintro H3 ⟨k3, d3, ys, ey, ly, ry⟩
        obtain ⟨ds, rs, ps⟩ := ex_reps (Pd := fun _ d => tok gd4 (n + 1) d = true) ry
        refine ⟨D, ys, rfl, .inl ⟨sql ey, fun l hl => ?_⟩⟩
        refine q _ _ _ (.tup ds) (((d1.trans (d2.trans d3)).new hl).up (by omega)) (reps_tup upd_same (rs.same ((Same.refl H3).new hl))) ?_
        show (gd4 (.tup ds) && ds.all (tok gd4 (n + 1))) = true
        have e : gd4 (.tup ds) = true := by
          show (true && decide (ds.length ≤ 4)) = true
          rw [Bool.true_and, decide_eq_true_eq, ← rs.1, ly]
          exact hm
        rw [e, Bool.true_and, List.all_eq_true]
        intro d hd
        obtain ⟨j, hj⟩ := List.getElem?_of_mem hd
        exact ps j d hj
theorem cl__law_thing (F : Df K mg "_law_thing" s__law_thing ["_law_state", "_law_deep"]) (T : Tx mg) (c__law_draw : Cl P w K mg base 2 "_law_draw" sp_draw) (c__law_word : Cl P w K mg base 4 "_law_word" sp_word) (c__law_number : Cl P w K mg base 4 "_law_number" sp_number) :
    ∀ N : Nat, Cl P w K mg base (N + 5) "_law_thing" (sp_thing N)
  | 0 => cl__law_thing1 F T c__law_draw c__law_word c__law_number 0 ((F.cl (k := 3) sc__law_thing (sp := fun _ _ _ _ => False) (fun _ _ _ _ h => h.elim) (fun _ _ _ _ _ _ _ _ _ _ h => h.elim)).imp fun _ _ _ _ ⟨_, h, _⟩ => by omega)
  | N + 1 => cl__law_thing1 F T c__law_draw c__law_word c__law_number (N + 1) ((cl__law_thing F T c__law_draw c__law_word c__law_number N).imp fun _ _ _ _ ⟨M, h, q⟩ => by
      have e : M = N := by omega
      rw [← e]
      exact q)
end
end K6
set_option maxHeartbeats 4000001
namespace K6
open L2 PySem PySem.Spec PyProof.Rows
theorem tok4_len {n : Nat} {ds : List D} (h : tok gd4 (n + 1) (.tup ds) = true) : ds.length ≤ 4 ∧ ∀ d ∈ ds, tok gd4 n d = true := by
  have h1 : (gd4 (.tup ds) && ds.all (tok gd4 n)) = true := h
  rw [Bool.and_eq_true, List.all_eq_true] at h1
  have h2 : (true && decide (ds.length ≤ 4)) = true := h1.1
  rw [Bool.true_and, decide_eq_true_eq] at h2
  exact ⟨h2, h1.2⟩
def sp_cnt (n : Nat) : Sp := fun vs H Q _ => ∃ (v : V) (d : D) (m : Nat), vs = [v] ∧ Rep H v d ∧ m ≤ n ∧ tok gd4 m d = true ∧ ∀ H', Same H H' → Q (.int (cnt m d)) H'
def Small (most : Int) (d : D) : Prop := tok gd4 6 d = true ∧ (cnt 6 d : Int) ≤ most
def cS : Nat := 15100
def sp_small : Sp := fun vs H Q _ => ∃ (z : Sl) (k : Nat) (most : Int), vs = [.ref z.s, .int most] ∧ 1 ≤ most ∧ St z H k ∧ k + cS ≤ KM ∧ ∀ H' k' v d, Dw z cS H k H' k' → Rep H' v d → Small most d → Q v H'
section
variable {P : Program}
variable {w : World} {K : PySem.W.Frag} {mg : Str → Option Value} {base : Heap}
abbrev s__law_many : Stmt := top 99
abbrev N__law_many : List Str := ["_law_thing_here", "_law_part"]
theorem sc__law_many : FnScope N__law_many ["_law_thing_here"] (defScope s__law_many) := ⟨rfl, rfl, rfl, by decide +kernel, rfl, by decide +kernel, by decide +kernel⟩
theorem cl__law_many1 (F : Df K mg "_law_many" s__law_many ["_law_thing_here"]) (T : Tx mg) (n : Nat) (c__law_many : Cl P w K mg base (n + 1) "_law_many" (fun vs H Q E => ∃ m, n = m + 1 ∧ sp_cnt m vs H Q E)) : Cl P w K mg base (n + 2) "_law_many" (sp_cnt n) := by
  refine F.cl sc__law_many (fun vs H Q E h => by obtain ⟨_, _, _, rfl, _⟩ := h; rfl) (fun f cdv A outer s H vs Q E hr h => ?_)
  have nd := sc__law_many.nd
  obtain ⟨v, d, m, rfl, hd, hm, ht, q⟩ := h
  refine ⟨_, (pss_one (ps_ret (pe_ifExp (pt_val (pe_callB (call_isDK K) rfl T.n_isinstance bb_isinstance (pa_cons (pv 0) (pa_cons (pty (n := "tuple") rfl T.n_tuple bt_tuple) pa_nil)))) (pe_op op_add pe_int (pe_callB (call_sumK K rfl) rfl T.n_sum bb_sum (pa_cons (pe_lc (own := [("_law_part", 1)]) rfl nd (pi_tupK K (pv 0)) (blkOk_by (own := [("_law_part", 1)]) (N := N__law_many) (sc := defScope s__law_many) (by decide +kernel)) (fun _ _ _ _ _ => (pgn 1 nd)) (fun _ _ _ _ _ => pts_nil) (fun _ _ _ _ _ => (pf c__law_many hr (by omega) rfl (pa_cons (pv 1) pa_nil)))) pa_nil))) pe_int))), ?_⟩
  refine ⟨v, rfl, v, d, "tuple", rfl, by decide, hd, _, rfl, ?_⟩
  cases m with
  | zero => cases ht
  | succ m =>
  cases d with
  | tup ds =>
    obtain ⟨h4, ha⟩ := tok4_len ht
    obtain ⟨p, xs, rfl, ep, hx⟩ := hd.tup_inv
    refine iteT ⟨_, rfl, p, rfl, ⟨xs, sqt ep⟩, fun C hC => ?_⟩
    refine lc_it (walk_tup (xs := xs)) (CPv (fun _ v (i : Int) => v = .int i) (ds.map fun d => (cnt m d : Int)) H C) (cpv_start hC) (fun i H2 _ pv2 => sqt (pv2.1 _ _ ep)) ?_ ?_
    · rintro i x H2 H3 hi pv2 ⟨rfl, hxi⟩
      obtain ⟨di, hdi, ri⟩ := hx.getV hxi
      exact ⟨rfl, _, rfl, n - 1, by omega, x, di, m, rfl, ri.same pv2.1, by omega, ha di (List.mem_of_getElem? hdi), fun H4 s4 => cpv_fin (fun _ _ _ _ _ r => r) hC (by rw [List.length_map]; omega) (by rw [List.getElem?_map, hdi]; rfl) pv2 s4 rfl⟩
    · intro H2 pv2
      obtain ⟨s2, ys, ey, hy⟩ := cpv_done (by rw [List.length_map, hx.1]; exact Nat.le_refl _) pv2
      have e : ys = (ds.map fun d => (cnt m d : Int)).map V.int := by
        apply List.ext_getElem?
        intro i
        rw [List.getElem?_map]
        cases h : (ds.map fun d => (cnt m d : Int))[i]? with
        | none =>
          rw [List.getElem?_eq_none_iff] at h
          rw [List.getElem?_eq_none_iff.mpr (by rw [hy.1]; exact h)]
          rfl
        | some a =>
          obtain ⟨x, hx, r⟩ := hy.get h
          rw [hx, r]
          rfl
      rw [e] at ey
      refine ⟨C, _, rfl, sql ey, _, _, rfl, rfl, ?_⟩
      have e2 : (1 : Int) + (ds.map fun d => (cnt m d : Int)).sum = ((cnt (m + 1) (.tup ds) : Nat) : Int) := by
        have key : ∀ ds : List D, (ds.map fun d => (cnt m d : Int)).sum = (((ds.map (cnt m)).sum : Nat) : Int) := by
          intro ds
          induction ds with
          | nil => rfl
          | cons d r ih => rw [List.map_cons, List.sum_cons, ih, List.map_cons, List.sum_cons, Int.natCast_add]
        rw [key]
        show _ = ((1 + (ds.map (cnt m)).sum : Nat) : Int)
        rw [Int.natCast_add]
        rfl
      show Q (V.int (1 + _)) H2
      rw [e2]
      exact q _ s2
  | int i => exact iteF (q _ (Same.refl _))
  | str i => exact iteF (q _ (Same.refl _))
  | bl i => exact iteF (q _ (Same.refl _))
  | non => exact iteF (q _ (Same.refl _))
  | oth => exact iteF (q _ (Same.refl _))
theorem cl__law_many (F : Df K mg "_law_many" s__law_many ["_law_thing_here"]) (T : Tx mg) : ∀ N : Nat, Cl P w K mg base (N + 2) "_law_many" (sp_cnt N)
  | 0 => cl__law_many1 F T 0 ((F.cl (k := 0) sc__law_many (sp := fun _ _ _ _ => False) (fun _ _ _ _ h => h.elim) (fun _ _ _ _ _ _ _ _ _ _ h => h.elim)).imp fun _ _ _ _ ⟨_, h, _⟩ => by omega)
  | N + 1 => cl__law_many1 F T (N + 1) ((cl__law_many F T N).imp fun _ _ _ _ ⟨M, h, q⟩ => by
      have e : M = N := by omega
      rw [← e]
      exact q)
abbrev s__law_small : Stmt := top 100
abbrev N__law_small : List Str := ["_law_state", "_law_most", "_law_thing_here"]
theorem sc__law_small : FnScope N__law_small ["_law_state", "_law_most"] (defScope s__law_small) := ⟨rfl, rfl, rfl, by decide +kernel, rfl, by decide +kernel, by decide +kernel⟩
theorem cl__law_small (F : Df K mg "_law_small" s__law_small ["_law_state", "_law_most"]) (T : Tx mg) (c__law_draw : Cl P w K mg base 2 "_law_draw" sp_draw) (c__law_thing : Cl P w K mg base 10 "_law_thing" (sp_thing 5)) (c__law_many : Cl P w K mg base 8 "_law_many" (sp_cnt 6)) :
    Cl P w K mg base 11 "_law_small" sp_small := by
  refine F.cl sc__law_small (fun vs H Q E h => by obtain ⟨_, _, _, rfl, _⟩ := h; rfl) (fun f cdv A outer s H vs Q E hr h => ?_)
  have nd := sc__law_small.nd
  obtain ⟨z, k, most, rfl, h1, st, hk, q⟩ := h
  refine ⟨_, (pss_cons (pset 2 nd (pf c__law_thing hr (by omega) rfl (pa_cons (pv 0) (pa_cons (pf c__law_draw hr (by omega) rfl (pa_cons (pv 0) (pa_cons pe_int pa_nil))) pa_nil))))
    (pss_cons (ps_while (passes_of rfl) (pt_cmpR op_gt (pf c__law_many hr (by omega) rfl (pa_cons (pv 2) pa_nil)) (pv 1) (nomark _)) (pss_one (pset 2 nd (pe_ix (ix_tupK K) (pv 2) (pf c__law_draw hr (by omega) rfl (pa_cons (pv 0) (pa_cons (pe_callB (call_lenK K) rfl T.n_len PySem.boot_len (pa_cons (pv 2) pa_nil)) pa_nil))) (fun _ _ => rfl)))))
    (pss_one (ps_ret (pv 2))))), ?_⟩
  unfold cS at *
  refine ⟨_, rfl, _, rfl, z, k, _, rfl, st, by omega, by decide, by decide, fun H1 i d1 h2 h3 => ?_⟩
  obtain ⟨n, rfl⟩ : ∃ n : Nat, i = (n : Int) := ⟨i.toNat, by omega⟩
  have t5 := tC5
  have tn : tC n ≤ tC 5 := tC_mono (by omega)
  refine ⟨z, k + 1, n, rfl, by omega, d1.st, by omega, fun H2 k2 v d d2 hv hd => ?_⟩
  have d12 := (d1.trans d2).up (show _ ≤ 15020 by omega)
  clear d1 d2
  refine ⟨fun m σ' H' => ∃ v d kk, σ' = [some (.ref z.s), some (.int most), some v] ∧ Dw z (15020 + (6 - m)) H k H' kk ∧ Rep H' v d ∧ m ≤ 6 ∧ tok gd4 m d = true, ⟨6, v, d, k2, rfl, d12.up (by omega), hv, Nat.le_refl _, (tok_ups hd (by omega)).1⟩, ?_⟩
  rintro m σ' H' ⟨v, d, kk, rfl, dw, hv, hm, ht⟩
  refine ⟨_, rfl, v, d, m, rfl, hv, hm, ht, fun H3 s3 => ⟨_, rfl, _, _, rfl, rfl, _, rfl, ?_⟩⟩
  have dw3 := dw.same s3
  have hv3 := hv.same s3
  by_cases hc : most < (cnt m d : Int)
  · rw [decide_eq_true hc]
    cases m with
    | zero => cases ht
    | succ m =>
    cases d with
    | tup ds =>
      obtain ⟨h4, ha⟩ := tok4_len ht
      obtain ⟨p, xs, rfl, ep, hx⟩ := hv3.tup_inv
      have hl : 1 ≤ ds.length := by
        cases ds with
        | nil =>
          have : cnt (m + 1) (.tup []) = 1 := rfl
          omega
        | cons => exact Nat.succ_le_succ (Nat.zero_le _)
      refine iteT ⟨_, fun _ _ h => h, _, rfl, _, rfl, _, rfl, .ref p, xs.length, rfl, .inr ⟨xs, sqt ep, rfl⟩, z, kk, _, rfl, dw3.st, ?_, ?_, ?_, fun H4 j d4 h5 h6 => ?_⟩
      · have := dw3.le
        omega
      · have := hx.1
        omega
      · have := hx.1
        omega
      obtain ⟨jn, rfl⟩ : ∃ n : Nat, j = (n : Int) := ⟨j.toNat, by omega⟩
      have hj : jn < ds.length := by
        have := hx.1
        omega
      obtain ⟨x, hxj, rx⟩ := hx.get (List.getElem?_eq_getElem hj)
      have g4 := d4.gr dw3.st
      refine ⟨p, xs, _, x, rfl, rfl, sqt (g4.1 _ _ ep), atI_nat hxj, ?_⟩
      exact ⟨m, Nat.lt_succ_self m, x, _, _, rfl, (dw3.trans d4).up (by omega), rx.gr g4, by omega, ha _ (List.getElem_mem hj)⟩
    | int i => have : cnt (m + 1) (.int i) = 1 := rfl; omega
    | str i => have : cnt (m + 1) (.str i) = 1 := rfl; omega
    | bl i => have : cnt (m + 1) (.bl i) = 1 := rfl; omega
    | non => have : cnt (m + 1) .non = 1 := rfl; omega
    | oth => have : cnt (m + 1) .oth = 1 := rfl; omega
  · rw [decide_eq_false hc]
    have e := tok_ups ht hm
    exact iteF ⟨_, rfl, q _ _ v d (dw3.up (by omega)) hv3 ⟨e.1, by rw [e.2]; omega⟩⟩
end
end K6
set_option maxHeartbeats 4000001
namespace K6
open L2 PySem PySem.Spec PyProof.Rows
def sp_begun : Sp := fun vs H Q _ => ∃ (c : Addr) (o : Obj) (cells : List Int), vs = [.ref c] ∧ H c = some (.frz o (.lst (cells.map V.int))) ∧ cells.length ≤ 1000 ∧ ∀ (z : Sl) H', Same H H' → St z H' 0 → Q (.ref z.s) H'
def sp_rooms : Sp := fun vs H Q _ => ∃ (z : Sl) (k room many : Nat), vs = [.ref z.s, .int room, .int many] ∧ 1 ≤ many ∧ many ≤ room ∧ room ≤ 1000 ∧ St z H k ∧ k + many ≤ KM ∧ ∀ H' k' p (rs : List Nat), Dw z many H k H' k' → H p = none → H' p = some (.lst (rs.map fun r : Nat => V.int (r : Int))) → rs.length = many → (∀ r ∈ rs, 1 ≤ r) → rs.sum ≤ room → Q (.ref p) H'
section
variable {P : Program}
variable {w : World} {K : PySem.W.Frag} {mg : Str → Option Value} {base : Heap}
abbrev s__law_begun : Stmt := top 93
abbrev N__law_begun : List Str := ["_law_script", "_law_cell"]
theorem sc__law_begun : FnScope N__law_begun ["_law_script"] (defScope s__law_begun) := ⟨rfl, rfl, rfl, by decide +kernel, rfl, by decide +kernel, by decide +kernel⟩
theorem cl__law_begun (F : Df K mg "_law_begun" s__law_begun ["_law_script"]) (T : Tx mg) : Cl P w K mg base 1 "_law_begun" sp_begun := by
  refine F.cl sc__law_begun (fun vs H Q E h => by obtain ⟨_, _, _, rfl, _⟩ := h; rfl) (fun f cdv A outer s H vs Q E hr h => ?_)
  have nd := sc__law_begun.nd
  obtain ⟨c, oc, cells, rfl, ec, hc, q⟩ := h
  refine ⟨_, (pss_one (ps_ret (pe_disp (pps_cons pe_str (pv 0) (pps_cons pe_str (pe_lc (own := [("_law_cell", 1)]) rfl nd (pi_listK K (pv 0)) (blkOk_by (own := [("_law_cell", 1)]) (N := N__law_begun) (sc := defScope s__law_begun) (by decide +kernel)) (fun _ _ _ _ _ => (pgn 1 nd)) (fun _ _ _ _ _ => pts_nil) (fun _ _ _ _ _ => (pe_ifExp (pt_cmpR op_ge (pv 1) (pe_op op_pow pe_int pe_int) (nomark _)) (pv 1) pe_int))) (pps_cons pe_str pe_int pps_nil))) (by rfl) (by rfl) (fun z => by cases z) (by decide)))), ?_⟩
  intro s hs
  have ec1 : (upd H s (.dK [])) c = some (.frz oc (.lst (cells.map V.int))) := up_ne ec hs
  refine ⟨_, rfl, _, rfl, c, rfl, ⟨_, sqf ec1⟩, fun D hD => ?_⟩
  refine lc_it (walk_list (xs := cells.map V.int)) (CPv (fun _ v (i : Int) => v = .int i) (cells.map fun i => if 1000000000000000000 ≤ i then i else 0) (upd H s (.dK [])) D) (cpv_start hD) (fun i H2 _ pv2 => sqf (pv2.1 _ _ ec1)) ?_ ?_
  · rintro i x H2 H3 hi pv2 ⟨rfl, hxi⟩
    rw [List.getElem?_map] at hxi
    cases hci : cells[i]? with
    | none => rw [hci] at hxi; cases hxi
    | some a =>
      rw [hci] at hxi
      cases hxi
      have fin : ∀ y, y = (if 1000000000000000000 ≤ a then a else 0) → _ := fun y e => cpv_fin (R := fun _ v (i : Int) => v = .int i) (ks := cells.map fun i => if 1000000000000000000 ≤ i then i else 0) (H1 := upd H s (.dK [])) (D := D) (fun _ _ _ _ _ r => r) hD (by rw [List.length_map]; omega) (i := i) (y := V.int y) (by rw [List.getElem?_map, hci]; rfl) pv2 (Same.refl _) (by rw [e])
      refine ⟨rfl, _, rfl, _, _, rfl, rfl, ⟨by decide, by decide, by decide⟩, _, _, rfl, rfl, _, rfl, ?_⟩
      rw [show (10 : Int) ^ (18 : Int).toNat = 1000000000000000000 by decide]
      by_cases h : 1000000000000000000 ≤ a
      · rw [decide_eq_true h]
        exact iteT ⟨_, rfl, fin a (by rw [if_pos h])⟩
      · rw [decide_eq_false h]
        exact iteF (fin 0 (by rw [if_neg h]))
  · intro H2 pv2
    obtain ⟨s2, ys, ey, hy⟩ := cpv_done (by rw [List.length_map, List.length_map]; exact Nat.le_refl _) pv2
    have e : ys = (cells.map fun i => if 1000000000000000000 ≤ i then i else 0).map V.int := by
      apply List.ext_getElem?
      intro i
      rw [List.getElem?_map]
      cases h : (cells.map fun i => if 1000000000000000000 ≤ i then i else 0)[i]? with
      | none =>
        rw [List.getElem?_eq_none_iff] at h
        rw [List.getElem?_eq_none_iff.mpr (by rw [hy.1]; exact h)]
        rfl
      | some a =>
        obtain ⟨x, hx, r⟩ := hy.get h
        rw [hx, r]
        rfl
    have es := s2 _ _ (show (upd H s (.dK [])) s = some (.dK []) from upd_same)
    have n1 : s ≠ D := ne_of_none upd_same hD
    have n2 : s ≠ c := fun e => by rw [e, ec] at hs; cases hs
    have n3 : D ≠ c := fun e => by rw [e, ec1] at hD; cases hD
    refine ⟨es, [(.inr "cells", .ref c), (.inr "left", .ref D), (.inr "at", .int 0)], rfl, nle, ?_⟩
    rw [e] at ey
    refine q ⟨s, D, c, cells⟩ _ ?_ ⟨upd_same, ?_, ⟨cells.map fun i => if 1000000000000000000 ≤ i then i else 0, ?_, List.length_map _⟩, n1, n3, hc⟩
    · intro b u hb
      rw [upd_ne (fun e => by rw [e, hs] at hb; cases hb)]
      exact s2 _ _ (up_ne hb hs)
    · exact ⟨oc, by rw [upd_ne (Ne.symm n2)]; exact s2 _ _ ec1⟩
    · rw [upd_ne (Ne.symm n1)]
      exact ey
abbrev s__law_rooms : Stmt := top 102
abbrev N__law_rooms : List Str := ["_law_state", "_law_room", "_law_many_here", "_law_found", "_law_left", "_law_k", "_law_extra"]
theorem sc__law_rooms : FnScope N__law_rooms ["_law_state", "_law_room", "_law_many_here"] (defScope s__law_rooms) := ⟨rfl, rfl, rfl, by decide +kernel, rfl, by decide +kernel, by decide +kernel⟩
theorem cl__law_rooms (F : Df K mg "_law_rooms" s__law_rooms ["_law_state", "_law_room", "_law_many_here"]) (T : Tx mg) (c__law_draw : Cl P w K mg base 2 "_law_draw" sp_draw) : Cl P w K mg base 3 "_law_rooms" sp_rooms := by
  refine F.cl sc__law_rooms (fun vs H Q E h => by obtain ⟨_, _, _, _, rfl, _⟩ := h; rfl) (fun f cdv A outer s H vs Q E hr h => ?_)
  have nd := sc__law_rooms.nd
  obtain ⟨z, k, room, many, rfl, h1, h2, h3, st, hk, q⟩ := h
  refine ⟨_, (pss_cons (ps_par (i := 3) (j := 4) (by rfl) nd rfl rfl (by decide) rfl rfl (pa_cons (pe_lst pa_nil) (pa_cons (pe_op op_sub (pv 1) (pv 2)) pa_nil)) (by rfl))
    (pss_cons (ps_for (passes_of rfl) rfl (pi_range1 rfl T.n_range (pa_cons (pv 2) pa_nil)) (pgn 5 nd) (pss_cons (pset 6 nd (pf c__law_draw hr (by omega) rfl (pa_cons (pv 0) (pa_cons (pe_op op_add (pv 4) pe_int) pa_nil))))
      (pss_cons (ps_expr (pe_bm PySem.F.plainAttrs_list PySem.F.slot_list_append PySem.F.type_list_append mt_append (pv 3) (pa_cons (pe_op op_add pe_int (pv 6)) pa_nil)))
      (pss_one (pset 4 nd (pe_op op_sub (pv 4) (pv 6)))))))
    (pss_one (ps_ret (pv 3))))), ?_⟩
  refine ⟨lsz, fun p hp => ⟨_, rfl, _, rfl, _, _, rfl, rfl, _, _, rfl, _, rfl, _, rfl, by omega, by omega, ?_⟩⟩
  rw [Int.toNat_natCast]
  obtain ⟨n0, n1, n2⟩ := st.fresh hp
  refine for_it (walk_range (lo := 0) (n := many)) (fun i σ' H' => ∃ (kk : Nat) (rs : List Nat) (left : Nat) (a b : Option V), σ' = [some (.ref z.s), some (.int room), some (.int many), some (.ref p), some (.int left), a, b] ∧ Dw z i H k H' kk ∧ H' p = some (.lst (rs.map fun r : Nat => V.int (r : Int))) ∧ rs.length = i ∧ (∀ r ∈ rs, 1 ≤ r) ∧ rs.sum + left + many = room + i)
    ⟨k, [], room - many, none, none, ?_, (Dw.refl st).new hp, upd_same, rfl, (fun r h => by cases h), by show 0 + (room - many) + many = room + 0; omega⟩ (fun _ _ _ _ _ => trivial) ?_ ?_
  · rw [show ((room - many : Nat) : Int) = (room : Int) - (many : Int) by omega]
    rfl
  · rintro i x σ' H2 H3 hi ⟨kk, rs, left, a, b, rfl, dw, er, hl, hr1, hs⟩ ⟨rfl, hx⟩
    have := dw.le
    refine ⟨_, rfl, _, rfl, _, _, rfl, rfl, z, kk, _, rfl, dw.st, by omega, by omega, by omega, fun H4 e d2 h5 h6 => ?_⟩
    obtain ⟨en, rfl⟩ : ∃ n : Nat, e = (n : Int) := ⟨e.toNat, by omega⟩
    have er4 := d2.kp _ _ n0 n1 er
    refine ⟨_, rfl, .inl ⟨rfl, _, sql er4⟩, _, rfl, _, _, rfl, rfl, p, _, _, rfl, rfl, er4, sizes (by rw [List.length_map]; omega), ?_⟩
    (refine ⟨_, rfl, _, rfl, _, _, rfl, rfl, ?_⟩)
    have d4 := dw.trans d2
    refine ⟨kk + 1, rs ++ [1 + en], left - en, some x, some (.int en), ?_, ⟨d4.kp.put hp, d4.st.put er4 n1 n2, d4.ge, d4.le⟩, ?_, by rw [List.length_append, hl]; rfl, ?_, ?_⟩
    · rw [show ((left - en : Nat) : Int) = (left : Int) - (en : Int) by omega]
      rfl
    · rw [upd_same, List.map_append]
      show _ = some (HO.lst (_ ++ [V.int ((1 + en : Nat) : Int)]))
      rw [show ((1 + en : Nat) : Int) = 1 + (en : Int) by omega]
    · intro r h
      (rcases List.mem_append.mp h with h | h)
      · exact hr1 r h
      · rw [List.mem_singleton] at h
        omega
    · rw [List.sum_append]
      show _ + (1 + en + 0) + _ + _ = _
      omega
  · rintro σ' H2 ⟨kk, rs, left, a, b, rfl, dw, er, hl, hr1, hs⟩
    exact ⟨_, rfl, q _ _ p rs dw hp er hl hr1 (by omega)⟩
end
end K6
set_option maxHeartbeats 4000001
namespace K6
open L2 PySem PySem.Spec PyProof.Rows
structure NmL (z : Sl) (ns : Nms) (nl : Addr) (H : Hp) : Prop where
  e : H nl = some (.lst (ns.map fun x => V.str (S x)))
  n : nl ≠ z.l
  nm : ∀ x ∈ ns, isNm x = true
  z : ns.length ≤ 20
theorem NmL.dw {z : Sl} {ns : Nms} {nl : Addr} {c : Nat} {H H' : Hp} {k k' : Nat} (a : NmL z ns nl H) (st : St z H k) (d : Dw z c H k H' k') : NmL z ns nl H' := ⟨d.kp _ _ (ne_of a.e st.d (by intro y; cases y)) a.n a.e, a.n, a.nm, a.z⟩
theorem NmL.same {z : Sl} {ns : Nms} {nl : Addr} {H H' : Hp} (a : NmL z ns nl H) (s : Same H H') : NmL z ns nl H' := ⟨s _ _ a.e, a.n, a.nm, a.z⟩
def LR (ns : Nms) (gr : Bool) (H : Hp) (y : V) : Prop := ∃ d, Rep H y d ∧ LeafOk ns gr d
theorem LR.gr {ns : Nms} {gr : Bool} {H H' : Hp} {y : V} (a : LR ns gr H y) (g : Gr H H') : LR ns gr H' y := by
  obtain ⟨d, r, l⟩ := a
  exact ⟨d, r.gr g, l⟩
theorem rep_S {H : Hp} {s : String} (h : (W s).length ≤ 1000000) : Rep H (.str (Str.ofString s)) (.str (W s)) := by
  rw [← S_W]
  exact .str _ h
theorem rep1 {H : Hp} {s : String} {t : Addr} (h : Nat.ble (W s).length 1000000 = true := by decide +kernel) (e : H t = some (.tup [.str (Str.ofString s)])) : Rep H (.ref t) (gnD s []) := reps_tup e (Reps.cons (rep_S (Nat.le_of_ble_eq_true h)) Reps.nil)
theorem rep2 {H : Hp} {s : String} {t : Addr} {v : V} {d : D} (e : H t = some (.tup [.str (Str.ofString s), v])) (r : Rep H v d) (h : Nat.ble (W s).length 1000000 = true := by decide +kernel) : Rep H (.ref t) (gnD s [d]) := reps_tup e (Reps.cons (rep_S (Nat.le_of_ble_eq_true h)) (Reps.cons r Reps.nil))
theorem rep3 {H : Hp} {s : String} {t : Addr} {v u : V} {d b : D} (e : H t = some (.tup [.str (Str.ofString s), v, u])) (r : Rep H v d) (r2 : Rep H u b) (h : Nat.ble (W s).length 1000000 = true := by decide +kernel) : Rep H (.ref t) (gnD s [d, b]) := reps_tup e (Reps.cons (rep_S (Nat.le_of_ble_eq_true h)) (Reps.cons r (Reps.cons r2 Reps.nil)))
theorem rep4 {H : Hp} {s : String} {t : Addr} {v u w : V} {d b c : D} (e : H t = some (.tup [.str (Str.ofString s), v, u, w])) (r : Rep H v d) (r2 : Rep H u b) (r3 : Rep H w c) (h : Nat.ble (W s).length 1000000 = true := by decide +kernel) : Rep H (.ref t) (gnD s [d, b, c]) := reps_tup e (Reps.cons (rep_S (Nat.le_of_ble_eq_true h)) (Reps.cons r (Reps.cons r2 (Reps.cons r3 Reps.nil))))
theorem small_own {most : Int} {d : D} (h : Small most d) (hm : most ≤ 60) : own d = true := own_iff.mpr ⟨tok4 h.1, by have := h.2; omega⟩
def cL : Nat := 151030
def sp_lleaf : Sp := fun vs H Q _ => ∃ (z : Sl) (k : Nat) (ns : Nms) (nl : Addr) (gr : Bool), vs = [.ref z.s, .ref nl, .bl gr] ∧ NmL z ns nl H ∧ St z H k ∧ k + cL ≤ KM ∧ ∀ H' k' v d, Dw z cL H k H' k' → Rep H' v d → LeafOk ns gr d → Q v H'
section
variable {P : Program}
variable {w : World} {K : PySem.W.Frag} {mg : Str → Option Value} {base : Heap}
abbrev s__law_leaf : Stmt := top 101
abbrev N__law_leaf : List Str := ["_law_state", "_law_names", "_law_grows", "_law_least", "_law_spans", "_law_things", "_law_k", "_law_some"]
theorem sc__law_leaf : FnScope N__law_leaf ["_law_state", "_law_names", "_law_grows"] (defScope s__law_leaf) := ⟨rfl, rfl, rfl, by decide +kernel, rfl, by decide +kernel, by decide +kernel⟩
theorem cl__law_leaf (F : Df K mg "_law_leaf" s__law_leaf ["_law_state", "_law_names", "_law_grows"]) (T : Tx mg) (c__law_draw : Cl P w K mg base 2 "_law_draw" sp_draw) (c__law_one : Cl P w K mg base 3 "_law_one" sp_one)
    (c__law_number : Cl P w K mg base 4 "_law_number" sp_number) (c__law_small : Cl P w K mg base 11 "_law_small" sp_small) : Cl P w K mg base 12 "_law_leaf" sp_lleaf := by
  refine F.cl sc__law_leaf (fun vs H Q E h => by obtain ⟨_, _, _, _, _, rfl, _⟩ := h; rfl) (fun f cdv A outer s H vs Q E hr h => ?_)
  have nd := sc__law_leaf.nd
  obtain ⟨z, k, ns, nl, gr, rfl, hn, st, hk, q⟩ := h
  refine ⟨_, (pss_cons (pset 3 nd (pf c__law_number hr (by omega) rfl (pa_cons (pv 0) pa_nil)))
    (pss_cons (pset 3 nd (pe_callB (call_min2 rfl) rfl T.n_min bb_min (pa_cons (pv 3) (pa_cons (pe_op op_sub (pe_op op_sub (pe_op op_pow pe_int pe_int) pe_int) pe_int) pa_nil))))
    (pss_cons (pset 4 nd (pe_lst (pa_cons (pe_tup (pa_cons pe_str (pa_cons (pv 3) (pa_cons (pe_op op_add (pv 3) (pf c__law_one hr (by omega) rfl (pa_cons (pv 0) (pa_cons (pe_lst (pa_cons pe_int (pa_cons pe_int (pa_cons pe_int (pa_cons (pf c__law_draw hr (by omega) rfl (pa_cons (pv 0) (pa_cons pe_int pa_nil))) pa_nil))))) pa_nil)))) pa_nil)))) (pa_cons (pe_tup (pa_cons pe_str (pa_cons pe_int (pa_cons pe_int pa_nil)))) pa_nil))))
    (pss_cons (pset 5 nd (pe_callTy (call_tupK K) rfl T.n_tuple bt_tuple (pa_cons (pe_lc (own := [("_law_k", 6)]) rfl nd (pi_range1 rfl T.n_range (pa_cons (pe_op op_add pe_int (pf c__law_draw hr (by omega) rfl (pa_cons (pv 0) (pa_cons pe_int pa_nil)))) pa_nil)) (blkOk_by (own := [("_law_k", 6)]) (N := N__law_leaf) (sc := defScope s__law_leaf) (by decide +kernel)) (fun _ _ _ _ _ => (pgn 6 nd)) (fun _ _ _ _ _ => pts_nil) (fun _ _ _ _ _ => (pf c__law_small hr (by omega) rfl (pa_cons (pv 0) (pa_cons pe_int pa_nil))))) pa_nil)))
    (pss_cons (pset 7 nd (pe_lst (pa_cons (pe_tup (pa_cons pe_str (pa_cons (pf c__law_small hr (by omega) rfl (pa_cons (pv 0) (pa_cons pe_int pa_nil))) pa_nil))) (pa_cons (pe_tup (pa_cons pe_str (pa_cons (pv 5) pa_nil))) (pa_cons (pe_tup (pa_cons pe_str (pa_cons pe_int (pa_cons (pf c__law_draw hr (by omega) rfl (pa_cons (pv 0) (pa_cons pe_int pa_nil))) pa_nil)))) pa_nil)))))
    (C8.pss_cut (ps_if (pt_cmpR (op_neEK K hr) (pv 1) (pe_lst pa_nil) (nomark _)) (pss_one (pset 7 nd (pe_op op_cat (pv 7) (pe_lst (pa_cons (pe_tup (pa_cons pe_str (pa_cons (pf c__law_one hr (by omega) rfl (pa_cons (pv 0) (pa_cons (pv 1) pa_nil))) pa_nil))) (pa_cons (pe_tup (pa_cons pe_str (pa_cons (pf c__law_one hr (by omega) rfl (pa_cons (pv 0) (pa_cons (pv 1) pa_nil))) pa_nil))) pa_nil)))))) pss_nil)
    (pss_one (ps_ret (pf c__law_one hr (by omega) rfl (pa_cons (pv 0) (pa_cons (pe_op op_cat (pe_op op_cat (pv 7) (pv 4)) (pe_op op_rep (pe_lst (pa_cons (pe_tup (pa_cons pe_str pa_nil)) pa_nil)) (pe_op op_mul pe_int (pe_callTy call_int1 rfl T.n_int bt_int (pa_cons (pv 2) pa_nil))))) pa_nil))))))))))), ?_⟩
  unfold cL at *
  have eS : cS = 15100 := rfl
  refine ⟨_, rfl, z, k, rfl, st, by omega, fun H1 k1 i d1 b1 b2 => ?_⟩
  refine ⟨_, rfl, _, _, rfl, rfl, ⟨by decide, by decide, by decide⟩, _, _, rfl, rfl, _, _, rfl, rfl, _, _, rfl, ?_⟩
  obtain ⟨lo, hlo, bl1, bl2⟩ : ∃ lo : Int, (if (10 : Int) ^ (30 : Int).toNat - 1 - 99 < i then (10 : Int) ^ (30 : Int).toNat - 1 - 99 else i) = lo ∧ -B30 < lo ∧ lo ≤ 1000000000000000000000000000000 - 100 := by
    refine ⟨_, rfl, ?_⟩
    rw [show (10 : Int) ^ (30 : Int).toNat = 1000000000000000000000000000000 by decide]
    unfold B30 at *
    split <;> omega
  rw [hlo]
  have k1le := d1.le
  refine ⟨_, rfl, _, rfl, _, rfl, _, rfl, z, k1, _, rfl, d1.st, by omega, by decide, by decide, fun H2 j d2 h1 h2 => ⟨lsz, fun t1 ht1 => ?_⟩⟩
  refine ⟨z, k1 + 1, t1, _, rfl, d2.st.new ht1, by omega, upd_same, (d2.st.fresh ht1).2.1, nle, nle, fun H3 x d3 hx => ?_⟩
  obtain ⟨e, rfl, be1, be2⟩ : ∃ e : Int, x = V.int e ∧ 0 ≤ e ∧ e ≤ 99 := by
    have e : x ∈ ([0, 1, 99, j] : List Int).map V.int := hx
    obtain ⟨y, hy, e⟩ := List.mem_map.mp e
    refine ⟨y, e.symm, ?_⟩
    simp only [List.mem_cons, List.not_mem_nil, or_false] at hy
    omega
  have d13 := (d1.trans ((d2.new ht1).trans d3)).up (show _ ≤ 10 by omega)
  refine ⟨_, _, rfl, rfl, lsz, fun t2 ht2 => ⟨lsz, fun t3 ht3 => ⟨lsz, fun t4 ht4 => ?_⟩⟩⟩
  have dA := ((d13.new ht2).new ht3).new ht4 (o := .lst [.ref t2, .ref t3])
  have y2 : LR ns gr (upd (upd (upd H3 t2 (.tup [.str "from", .int lo, .int (lo + e)])) t3 (.tup [.str "from", .int 0, .int 1])) t4 (.lst [.ref t2, .ref t3])) (.ref t2) := ⟨_, rep3 (up_ne (up_ne upd_same ht3) ht4) (.int _) (.int _), lf_from (span_of bl1 (by omega) (by omega) (by omega))⟩
  have y3 : LR ns gr (upd (upd (upd H3 t2 (.tup [.str "from", .int lo, .int (lo + e)])) t3 (.tup [.str "from", .int 0, .int 1])) t4 (.lst [.ref t2, .ref t3])) (.ref t3) := ⟨_, rep3 (up_ne upd_same ht4) (.int _) (.int _), lf_from (span_of (by decide) (by decide) (by decide) (by decide))⟩
  have e4 : (upd (upd (upd H3 t2 (.tup [.str "from", .int lo, .int (lo + e)])) t3 (.tup [.str "from", .int 0, .int 1])) t4 (.lst [.ref t2, .ref t3])) t4 = some (.lst [.ref t2, .ref t3]) := upd_same
  have n4 : t4 ≠ z.l ∧ t4 ≠ z.s := by
    have := ((d13.new ht2).new ht3).st.fresh ht4
    exact ⟨this.2.1, this.1⟩
  generalize (upd (upd (upd H3 t2 (.tup [.str "from", .int lo, .int (lo + e)])) t3 (.tup [.str "from", .int 0, .int 1])) t4 (.lst [.ref t2, .ref t3])) = HA at *
  have kA := dA.le
  refine ⟨_, rfl, z, _, _, rfl, dA.st, by omega, by decide, by decide, fun H5 j5 d5 h5 h5' => ⟨_, _, rfl, rfl, _, rfl, by omega, by omega, fun D hD => ?_⟩⟩
  obtain ⟨m, rfl⟩ : ∃ m : Nat, j5 = (m : Int) := ⟨j5.toNat, by omega⟩
  have em : ((1 : Int) + (m : Int)).toNat = m + 1 := by omega
  rw [em]
  have dB := (dA.trans d5).up (show _ ≤ 11 by omega)
  have kB := dB.le
  have mle : (m + 1) * cS ≤ 9 * cS := Nat.mul_le_mul_right _ (by omega)
  refine lc_it (walk_range (lo := 0) (n := m + 1)) (CDw z (fun _ H v => ∃ d, Rep H v d ∧ own d = true) cS H5 _ D) (cdw_start d5.st hD) (fun _ _ _ _ => trivial) ?_ ?_
  · rintro i' x H6 H7 hi ⟨k6, d6, ys, ey, ly, ry⟩ ⟨rfl, hx⟩
    refine ⟨rfl, _, rfl, z, k6, 9, rfl, by decide, d6.st, ?_, fun H8 k8 v d d8 hv hd => ?_⟩
    · have := d6.le
      have : i' * cS + cS ≤ (m + 1) * cS := by
        rw [← Nat.succ_mul]
        exact Nat.mul_le_mul_right _ hi
      omega
    · exact cdw_step (fun _ _ _ _ g ⟨d, r, t⟩ => ⟨d, r.gr g, t⟩) d5.st hD (by omega) d6 ey ly ry d8 ⟨d, hv, small_own hd (by decide)⟩
  rintro H6 ⟨k6, d6, ys, ey, ly, ry⟩
  obtain ⟨ts, rs, ps⟩ := ex_reps (Pd := fun _ d => own d = true) ry
  have hts : ∀ t ∈ ts, own t = true := fun t ht => by
    obtain ⟨j, hj⟩ := List.getElem?_of_mem ht
    exact ps j t hj
  refine ⟨D, ys, rfl, .inl ⟨sql ey, fun T5 hT5 => ?_⟩⟩
  have dC := ((dB.trans d6).new hT5 (o := .tup ys)).up (show _ ≤ 11 + 9 * cS by omega)
  have rT : Rep (upd H6 T5 (.tup ys)) (.ref T5) (.tup ts) := reps_tup upd_same (rs.same ((Same.refl H6).new hT5))
  have gA : Gr HA (upd H6 T5 (.tup ys)) := ((d5.trans d6).gr dA.st).trans (.of ((Same.refl H6).new hT5))
  have e4C : (upd H6 T5 (.tup ys)) t4 = some (.lst [.ref t2, .ref t3]) := (Same.refl H6).new hT5 _ _ ((d5.trans d6).kp _ _ n4.2 n4.1 e4)
  have lts : ts.length = m + 1 := by rw [← rs.1, ly]
  generalize (upd H6 T5 (.tup ys)) = HC at *
  have kC := dC.le
  refine ⟨_, rfl, z, _, 60, rfl, by decide, dC.st, by omega, fun H8 k8 v d d8 hv hd => ⟨lsz, fun u1 hu1 => ?_⟩⟩
  refine ⟨_, rfl, lsz, fun u2 hu2 => ?_⟩
  have kD := d8.le
  refine ⟨_, rfl, z, k8, _, rfl, (d8.st.new hu1).new hu2, by omega, by decide, by decide, fun H9 j9 d9 h9 h9' => ⟨lsz, fun u3 hu3 => ⟨lsz, fun L hL => ?_⟩⟩⟩
  have g8 : Gr H8 _ := Gr.of (((Same.refl H8).new hu1 (o := .tup [.str "just", v])).new hu2 (o := .tup [.str "some", .ref T5]))
  have g9 := d9.gr ((d8.st.new hu1).new hu2)
  have gL : Gr H9 _ := Gr.of (((Same.refl H9).new hu3 (o := .tup [.str "from", .int 0, .int j9])).new hL (o := .lst [.ref u1, .ref u2, .ref u3]))
  have gCL := (d8.gr dC.st).trans (g8.trans (g9.trans gL))
  have e1 : (upd (upd H8 u1 (.tup [.str "just", v])) u2 (.tup [.str "some", .ref T5])) u1 = some (.tup [.str "just", v]) := up_ne upd_same hu2
  have e2 : (upd (upd H8 u1 (.tup [.str "just", v])) u2 (.tup [.str "some", .ref T5])) u2 = some (.tup [.str "some", .ref T5]) := upd_same
  have dL := ((dC.trans (((d8.new hu1).new hu2).trans d9)).new hu3 (o := .tup [.str "from", .int 0, .int j9])).new hL (o := .lst [.ref u1, .ref u2, .ref u3])
  have z1 : LR ns gr (upd (upd H9 u3 (.tup [.str "from", .int 0, .int j9])) L (.lst [.ref u1, .ref u2, .ref u3])) (.ref u1) := ⟨_, rep2 (gL.1 _ _ (g9.1 _ _ e1)) (hv.gr (g8.trans (g9.trans gL))), lf_just (small_own hd (by decide))⟩
  have z2 : LR ns gr (upd (upd H9 u3 (.tup [.str "from", .int 0, .int j9])) L (.lst [.ref u1, .ref u2, .ref u3])) (.ref u2) := ⟨_, rep2 (gL.1 _ _ (g9.1 _ _ e2)) (rT.gr gCL), lf_some (by omega) (by omega) hts⟩
  have z3 : LR ns gr (upd (upd H9 u3 (.tup [.str "from", .int 0, .int j9])) L (.lst [.ref u1, .ref u2, .ref u3])) (.ref u3) := ⟨_, rep3 (up_ne upd_same hL) (.int _) (.int _), lf_from (span_of (by decide) (by omega) (by omega) (by omega))⟩
  have nL : L ≠ z.l ∧ L ≠ z.s := ⟨((d9.st.new hu3).fresh hL).2.1, ((d9.st.new hu3).fresh hL).1⟩
  have eL : (upd (upd H9 u3 (.tup [.str "from", .int 0, .int j9])) L (.lst [.ref u1, .ref u2, .ref u3])) L = some (.lst [.ref u1, .ref u2, .ref u3]) := upd_same
  have e4L : (upd (upd H9 u3 (.tup [.str "from", .int 0, .int j9])) L (.lst [.ref u1, .ref u2, .ref u3])) t4 = some (.lst [.ref t2, .ref t3]) :=
    ((Same.refl H9).new hu3).new hL _ _ (d9.kp _ _ n4.2 n4.1 (((Same.refl H8).new hu1).new hu2 _ _ (d8.kp _ _ n4.2 n4.1 e4C)))
  have w2 := (y2.gr gA).gr gCL
  have w3 := (y3.gr gA).gr gCL
  have dL2 := dL.up (show _ ≤ 12 + 10 * cS by omega)
  generalize (upd (upd H9 u3 (.tup [.str "from", .int 0, .int j9])) L (.lst [.ref u1, .ref u2, .ref u3])) = HL at *
  have kL := dL2.le
  refine ⟨fun σ' H' => ∃ (L : Addr) (xs : List V) (kk : Nat), σ' = [some (.ref z.s), some (.ref nl), some (.bl gr), some (.int lo), some (.ref t4), some (.ref T5), none, some (.ref L)] ∧ Dw z (14 + 10 * cS) H k H' kk ∧ H' L = some (.lst xs) ∧ L ≠ z.l ∧ xs.length ≤ 5 ∧ 1 ≤ xs.length ∧ (∀ y ∈ xs, LR ns gr H' y) ∧ H' t4 = some (.lst [.ref t2, .ref t3]) ∧ LR ns gr H' (.ref t2) ∧ LR ns gr H' (.ref t3), ?_, ?_⟩
  · have hnL := hn.dw st dL2
    refine ⟨_, rfl, lsz, fun q0 hq0 => ⟨nl, q0, _, rfl, rfl, sql (up_ne hnL.e hq0), sql upd_same, _, rfl, ?_⟩⟩
    have dq := dL2.new hq0 (o := .lst [])
    have sq : Same HL (upd HL q0 (.lst [])) := (Same.refl HL).new hq0
    have hnq := hnL.same sq
    have gq : Gr HL (upd HL q0 (.lst [])) := .of sq
    have eLq := sq _ _ eL
    have e4q := sq _ _ e4L
    generalize (upd HL q0 (.lst [])) = HQ at *
    by_cases hns : ns = []
    · have e0 : ((ns.map fun x => V.str (S x)).isEmpty != true) = false := by rw [hns]; rfl
      rw [e0]
      refine iteF ⟨L, _, _, rfl, dq.up (by omega), eLq, nL.1, nle, nle, ?_, e4q, w2.gr gq, w3.gr gq⟩
      intro y hy
      (rcases List.mem_cons.mp hy with rfl | hy)
      · exact z1.gr gq
      (rcases List.mem_cons.mp hy with rfl | hy)
      · exact z2.gr gq
      rw [List.mem_singleton] at hy
      rw [hy]
      exact z3.gr gq
    · have hl1 : 1 ≤ ns.length := by
        cases ns with
        | nil => exact absurd rfl hns
        | cons => exact Nat.succ_le_succ (Nat.zero_le _)
      have e0 : ((ns.map fun x => V.str (S x)).isEmpty != true) = true := by
        cases ns with
        | nil => exact absurd rfl hns
        | cons => rfl
      rw [e0]
      have hz := hn.z
      have pick : ∀ x : V, x ∈ (ns.map fun x => V.str (S x)) → ∃ y, x = V.str (S y) ∧ y ∈ ns ∧ isNm y = true := fun x hx => by
        obtain ⟨y, hy, e⟩ := List.mem_map.mp hx
        exact ⟨y, e.symm, hy, hn.nm y hy⟩
      refine iteT ⟨_, rfl, _, rfl, _, rfl, z, _, nl, _, rfl, dq.st, by omega, hnq.e, hnq.n, by rw [List.length_map]; omega, by rw [List.length_map]; omega, fun HA1 x1 dx1 hx1 => ⟨lsz, fun v1 hv1 => ?_⟩⟩
      have hn1 := (hnq.dw dq.st dx1).same ((Same.refl HA1).new hv1 (o := .tup [.str "var", x1]))
      refine ⟨_, rfl, _, rfl, z, _, nl, _, rfl, dx1.st.new hv1, by omega, hn1.e, hn1.n, by rw [List.length_map]; omega, by rw [List.length_map]; omega, fun HA2 x2 dx2 hx2 => ⟨lsz, fun v2 hv2 => ⟨lsz, fun M1 hM1 => ?_⟩⟩⟩
      obtain ⟨y1, rfl, m1, i1⟩ := pick x1 hx1
      obtain ⟨y2', rfl, m2, i2⟩ := pick x2 hx2
      have g1 := dx1.gr dq.st
      have g1' : Gr HA1 (upd HA1 v1 (.tup [.str "var", .str (S y1)])) := .of ((Same.refl HA1).new hv1)
      have g2 := dx2.gr (dx1.st.new hv1)
      have g2' : Gr HA2 (upd (upd HA2 v2 (.tup [.str "upto", .str (S y2')])) M1 (.lst [.ref v1, .ref v2])) := .of (((Same.refl HA2).new hv2).new hM1)
      have dM := ((((dq.trans dx1).new hv1).trans dx2).new hv2).new hM1 (o := .lst [.ref v1, .ref v2])
      have eLM := ((Same.refl HA2).new hv2).new hM1 (o := .lst [.ref v1, .ref v2]) _ _ (dx2.kp _ _ nL.2 nL.1 ((Same.refl HA1).new hv1 _ _ (dx1.kp _ _ nL.2 nL.1 eLq)))
      have e4M := ((Same.refl HA2).new hv2).new hM1 (o := .lst [.ref v1, .ref v2]) _ _ (dx2.kp _ _ n4.2 n4.1 ((Same.refl HA1).new hv1 _ _ (dx1.kp _ _ n4.2 n4.1 e4q)))
      refine ⟨L, M1, _, _, rfl, rfl, eLM, upd_same, lsz, fun L2 hL2 => ?_⟩
      have gM : Gr _ (upd (upd (upd HA2 v2 (.tup [.str "upto", .str (S y2')])) M1 (.lst [.ref v1, .ref v2])) L2 (.lst ([.ref u1, .ref u2, .ref u3] ++ [.ref v1, .ref v2]))) := .of ((Same.refl _).new hL2)
      have gall := gq.trans (g1.trans (g1'.trans (g2.trans (g2'.trans gM))))
      refine ⟨L2, _, _, rfl, (dM.new hL2).up (by omega), upd_same, (dM.st.fresh hL2).2.1, nle, nle, ?_, up_ne e4M hL2, w2.gr gall, w3.gr gall⟩
      intro y hy
      (rcases List.mem_cons.mp hy with rfl | hy)
      · exact z1.gr gall
      (rcases List.mem_cons.mp hy with rfl | hy)
      · exact z2.gr gall
      (rcases List.mem_cons.mp hy with rfl | hy)
      · exact z3.gr gall
      (rcases List.mem_cons.mp hy with rfl | hy)
      · exact ⟨_, rep2 ((g2.trans (g2'.trans gM)).1 _ _ upd_same) (.str y1 (isNm_len i1)), lf_var i1 m1⟩
      rw [List.mem_singleton] at hy
      rw [hy]
      exact ⟨_, rep2 (gM.1 _ _ (up_ne upd_same hM1)) (.str y2' (isNm_len i2)), lf_upto i2 m2⟩
  · rintro σ' H' ⟨L, xs, kk, rfl, dw, eL, nL, l5, l1, hxs, e4, w2, w3⟩
    have kw := dw.le
    refine ⟨_, rfl, _, rfl, _, rfl, L, t4, _, _, rfl, rfl, eL, e4, sizes' (by show xs.length + 2 ≤ _; omega), fun A1 hA1 => ?_⟩
    refine ⟨lsz, fun b1 hb1 => ⟨lsz, fun B1 hB1 => ?_⟩⟩
    refine ⟨_, rfl, .inr ⟨gr, rfl, _, _, rfl, rfl, .inl ⟨by decide, by decide⟩, B1, _, _, rfl, rfl, upd_same, by cases gr <;> decide, by cases gr <;> decide, by cases gr <;> exact lsz, fun C1 hC1 => ?_⟩⟩
    have eA1 : (upd (upd (upd (upd H' A1 (.lst (xs ++ [.ref t2, .ref t3]))) b1 (.tup [.str "again"])) B1 (.lst [.ref b1])) C1 (.lst (List.replicate (2 * (if gr = true then 1 else 0 : Int)).toNat [V.ref b1]).flatten)) A1 = some (.lst (xs ++ [.ref t2, .ref t3])) := up_ne (up_ne (up_ne upd_same hb1) hB1) hC1
    have eb1 : (upd (upd (upd (upd H' A1 (.lst (xs ++ [.ref t2, .ref t3]))) b1 (.tup [.str "again"])) B1 (.lst [.ref b1])) C1 (.lst (List.replicate (2 * (if gr = true then 1 else 0 : Int)).toNat [V.ref b1]).flatten)) b1 = some (.tup [.str "again"]) := up_ne (up_ne upd_same hB1) hC1
    have s4 : Same H' (upd (upd (upd (upd H' A1 (.lst (xs ++ [.ref t2, .ref t3]))) b1 (.tup [.str "again"])) B1 (.lst [.ref b1])) C1 (.lst (List.replicate (2 * (if gr = true then 1 else 0 : Int)).toNat [V.ref b1]).flatten)) := ((((Same.refl H').new hA1).new hb1).new hB1).new hC1
    have eC1 : (upd (upd (upd (upd H' A1 (.lst (xs ++ [.ref t2, .ref t3]))) b1 (.tup [.str "again"])) B1 (.lst [.ref b1])) C1 (.lst (List.replicate (2 * (if gr = true then 1 else 0 : Int)).toNat [V.ref b1]).flatten)) C1 = some (.lst (List.replicate (2 * (if gr = true then 1 else 0 : Int)).toNat [V.ref b1]).flatten) := upd_same
    obtain ⟨zs, ezs, hz2, hzs⟩ : ∃ zs, (List.replicate (2 * (if gr = true then 1 else 0 : Int)).toNat [V.ref b1]).flatten = zs ∧ zs.length ≤ 2 ∧ ∀ y ∈ zs, y = V.ref b1 ∧ gr = true := by
      refine ⟨_, rfl, ?_, ?_⟩
      · cases gr <;> exact nle
      · intro y hy
        cases gr with
        | false => cases hy
        | true =>
          refine ⟨?_, rfl⟩
          have : y ∈ [V.ref b1, V.ref b1] := hy
          simpa using this
    rw [ezs] at eA1 eb1 s4 eC1 ⊢
    generalize (upd (upd (upd (upd H' A1 (.lst (xs ++ [.ref t2, .ref t3]))) b1 (.tup [.str "again"])) B1 (.lst [.ref b1])) C1 (.lst zs)) = HZ at *
    refine ⟨A1, C1, _, _, rfl, rfl, eA1, eC1, sizes' (by rw [List.length_append]; show xs.length + 2 + _ ≤ _; omega), fun M1 hM1 => ?_⟩
    have dZ := (dw.same s4).new hM1 (o := .lst ((xs ++ [.ref t2, .ref t3]) ++ zs))
    refine ⟨z, kk, M1, _, rfl, dZ.st, by omega, upd_same, ((dw.same s4).st.fresh hM1).2.1, by rw [List.length_append, List.length_append]; omega, by rw [List.length_append, List.length_append]; show xs.length + 2 + _ ≤ _; omega, fun HF y dF hy => ?_⟩
    have g0 : Gr HZ _ := Gr.of ((Same.refl HZ).new hM1 (o := .lst ((xs ++ [.ref t2, .ref t3]) ++ zs)))
    have gF := g0.trans (dF.gr dZ.st)
    have g4 := (Gr.of s4).trans gF
    have fin : ∀ y, LR ns gr HF y → Q y HF := fun y ⟨d, r, l⟩ => q _ _ _ d ((dZ.trans dF).up (by omega)) r l
    apply fin
    (rcases List.mem_append.mp hy with hy | hy)
    · rcases List.mem_append.mp hy with hy | hy
      · exact (hxs y hy).gr g4
      · (rcases List.mem_cons.mp hy with rfl | hy)
        · exact w2.gr g4
        · rw [List.mem_singleton] at hy
          rw [hy]
          exact w3.gr g4
    · obtain ⟨rfl, hg⟩ := hzs y hy
      exact ⟨_, rep1 rfl (gF.1 _ _ eb1), lf_again hg⟩
end
end K6
set_option maxHeartbeats 4000001
namespace K6
open L2 PySem PySem.Spec PyProof.Rows
theorem sl_tupAK {X : Cx} (K : PySem.W.Frag) (h : X.K = K := by rfl) : SlR X (rSlA K) := by subst h; exact sl_tupA
theorem inV_int (i : Int) (l : List Int) : inV (.int i) (l.map V.int) = decide (i ∈ l) := by
  unfold inV
  rw [List.any_map]
  by_cases h : i ∈ l
  · rw [decide_eq_true h, List.any_eq_true]
    exact ⟨i, h, show (i == i) = true from beq_self_eq_true _⟩
  · rw [decide_eq_false h, List.any_eq_false]
    intro n hn z
    have z2 := eq_of_beq (show (n == i) = true from z)
    exact h (z2 ▸ hn)
theorem le_sum_mem : ∀ {l : List Nat} {a : Nat}, a ∈ l → a ≤ l.sum
  | b :: r, a, h => by
    rw [List.sum_cons]
    (rcases List.mem_cons.mp h with e | h)
    · omega
    · have := le_sum_mem h
      omega
theorem pairs_of : ∀ {es ds : List D}, es.length = ds.length → (∀ (j : Nat) e, es[j]? = some e → ∃ (i : Int) (d : D), e = .tup [.int i, d] ∧ 1 ≤ i ∧ i ≤ 9 ∧ ds[j]? = some d) →
    ∃ ps : List (Int × D), es = ps.map (fun p => .tup [.int p.1, p.2]) ∧ (∀ p ∈ ps, 1 ≤ p.1 ∧ p.1 ≤ 9) ∧ ps.map (·.2) = ds
  | [], [], _, _ => ⟨[], rfl, (fun p h => by cases h), rfl⟩
  | [], _ :: _, h, _ => (by simp at h)
  | _ :: _, [], h, _ => (by simp at h)
  | e :: es, d :: ds, h, k => by
    obtain ⟨i, d', rfl, h1, h2, hd⟩ := k 0 e rfl
    cases hd
    obtain ⟨ps, rfl, hp, rfl⟩ := pairs_of (es := es) (ds := ds) (by simpa using h) fun j e he => k (j + 1) e he
    exact ⟨(i, d) :: ps, rfl, (fun p hp' => by
      rcases List.mem_cons.mp hp' with e | hp'
      · rw [e]; exact ⟨h1, h2⟩
      · exact hp p hp'), rfl⟩
theorem mem_words {l : List String} (h : (l.map W).all (fun x => decide (x.length ≤ 1000000)) = true) {y : V} (hy : y ∈ l.map fun s => V.str (Str.ofString s)) : ∃ x, y = V.str (S x) ∧ x ∈ l.map W ∧ x.length ≤ 1000000 := by
  obtain ⟨s, hs, rfl⟩ := List.mem_map.mp hy
  have hm : W s ∈ l.map W := List.mem_map.mpr ⟨s, hs, rfl⟩
  exact ⟨W s, by rw [S_W], hm, of_decide_eq_true (List.all_eq_true.mp h _ hm)⟩
def gC : Nat → Nat
  | 0 => cL + 1
  | n + 1 => cL + 60 + 6 * gC n
theorem gC5 : gC 5 ≤ 1500000000 := by decide
theorem gC_ge (n : Nat) : cL + 1 ≤ gC n := by
  cases n with
  | zero => exact Nat.le_refl _
  | succ n => show _ ≤ cL + 60 + 6 * gC n; omega
def sp_lgen (N : Nat) : Sp := fun vs H Q _ => ∃ (z : Sl) (k room n : Nat) (ns : Nms) (nl : Addr) (gr : Bool), vs = [.ref z.s, .int room, .int n, .ref nl, .bl gr] ∧ n ≤ N ∧ 1 ≤ room ∧ room ≤ 24 ∧ ns.length + n ≤ 10 ∧ NmL z ns nl H ∧ St z H k ∧ k + gC n ≤ KM ∧ ∀ H' k' v d, Dw z (gC n) H k H' k' → Rep H' v d → VG (n + 1) room (d, ns, gr) → Q v H'
section
variable {P : Program}
variable {w : World} {K : PySem.W.Frag} {mg : Str → Option Value} {base : Heap}
abbrev s__law_generator : Stmt := top 103
abbrev N__law_generator : List Str := ["_law_state", "_law_room", "_law_deep", "_law_names", "_law_grows", "_law_way", "_law_two", "_law_rooms_here", "_law_parts", "_law_one_here", "_law_part", "_law_name", "_law_first", "_law_inner", "_law_least", "_law_words_here", "_law_tests"]
theorem sc__law_generator : FnScope N__law_generator ["_law_state", "_law_room", "_law_deep", "_law_names", "_law_grows"] (defScope s__law_generator) := ⟨rfl, rfl, rfl, by decide +kernel, rfl, by decide +kernel, by decide +kernel⟩
theorem cl__law_generator1 (F : Df K mg "_law_generator" s__law_generator ["_law_state", "_law_room", "_law_deep", "_law_names", "_law_grows"]) (T : Tx mg) (c__law_draw : Cl P w K mg base 2 "_law_draw" sp_draw) (c__law_one : Cl P w K mg base 3 "_law_one" sp_one)
    (c__law_word : Cl P w K mg base 4 "_law_word" sp_word) (c__law_leaf : Cl P w K mg base 12 "_law_leaf" sp_lleaf) (c__law_rooms : Cl P w K mg base 3 "_law_rooms" sp_rooms)
    (N : Nat) (c__law_generator : Cl P w K mg base (N + 12) "_law_generator" (fun vs H Q E => ∃ M, N = M + 1 ∧ sp_lgen M vs H Q E)) : Cl P w K mg base (N + 13) "_law_generator" (sp_lgen N) := by
  refine F.cl sc__law_generator (fun vs H Q E h => by obtain ⟨_, _, _, _, _, _, _, rfl, _⟩ := h; rfl) (fun f cdv A outer s H vs Q E hr h => ?_)
  have nd := sc__law_generator.nd
  obtain ⟨z, k, room, n, ns, nl, gr, rfl, hN, hr1, hr24, hz, hn, st, hk, q⟩ := h
  have gge := gC_ge n
  refine ⟨_, (pss_cons (pset 5 nd (pf c__law_draw hr (by omega) rfl (pa_cons (pv 0) (pa_cons pe_int pa_nil))))
    (C8.pss_cut (ps_if (PW.pt (pw_or (pt_cmpR op_lt (pv 1) pe_int (nomark _)) (pw_or (pt_cmpR op_eq (pv 2) pe_int (nomark _)) (pw_or (pt_cmpR op_lt (pv 5) pe_int (nomark _)) (pw_or1 (PW.pt (pw_and (pt_cmpR op_eq (pv 5) pe_int (nomark _)) (pw_and1 (pt_cmpR (op_eqEK K hr) (pv 3) (pe_lst pa_nil) (nomark _)))))))))) (pss_one (ps_ret (pf c__law_leaf hr (by omega) rfl (pa_cons (pv 0) (pa_cons (pv 3) (pa_cons (pv 4) pa_nil)))))) pss_nil)
    (pss_cons (pset 6 nd (pf c__law_rooms hr (by omega) rfl (pa_cons (pv 0) (pa_cons (pe_op op_sub (pv 1) pe_int) (pa_cons pe_int pa_nil)))))
    (pss_cons (ps_if (pt_cmpR (op_inK K) (pv 5) (pe_tup (pa_cons pe_int (pa_cons pe_int (pa_cons pe_int pa_nil)))) rfl) (pss_cons (pset 7 nd (pf c__law_rooms hr (by omega) rfl (pa_cons (pv 0) (pa_cons (pe_op op_sub (pv 1) pe_int) (pa_cons (pe_op op_add (pf c__law_draw hr (by omega) rfl (pa_cons (pv 0) (pa_cons (pe_callB (call_min2 rfl) rfl T.n_min bb_min (pa_cons pe_int (pa_cons (pe_op op_sub (pv 1) pe_int) pa_nil))) pa_nil))) pe_int) pa_nil)))))
      (pss_cons (ps_setLc (i := 8) (own := [("_law_one_here", 9)]) rfl nd rfl rfl (sw_true rfl rfl rfl (by decide +kernel)) (pi_listK K (pv 7)) (blkOk_by (own := [("_law_one_here", 9)]) (N := N__law_generator) (sc := defScope s__law_generator) (by decide +kernel)) (fun _ _ _ _ _ => (pgn 9 nd)) (fun _ _ _ _ _ => pts_nil) (fun _ _ _ _ _ => (pf c__law_generator hr (by omega) rfl (pa_cons (pv 0) (pa_cons (pv 9) (pa_cons (pe_op op_sub (pv 2) pe_int) (pa_cons (pv 3) (pa_cons (pv 4) pa_nil))))))))
      (pss_cons (ps_if (pt_cmpR op_eq (pv 5) pe_int (nomark _)) (pss_one (ps_ret (pe_tup (pa_cons pe_str (pa_cons (pe_callTy (call_tupK K) rfl T.n_tuple bt_tuple (pa_cons (pe_lc (own := [("_law_part", 10)]) rfl nd (pi_listK K (pv 8)) (blkOk_by (own := [("_law_part", 10)]) (N := N__law_generator) (sc := defScope s__law_generator) (by decide +kernel)) (fun _ _ _ _ _ => (pgn 10 nd)) (fun _ _ _ _ _ => pts_nil) (fun _ _ _ _ _ => (pe_tup (pa_cons (pe_op op_add pe_int (pf c__law_draw hr (by omega) rfl (pa_cons (pv 0) (pa_cons pe_int pa_nil)))) (pa_cons (pv 10) pa_nil))))) pa_nil)) pa_nil))))) pss_nil)
      (pss_one (ps_ret (pe_tup (pa_cons pe_str (pa_cons (pe_slice (sl_tupAK K) (pe_callTy (call_tupK K) rfl T.n_tuple bt_tuple (pa_cons (pv 8) pa_nil)) po_none (po_some (pf c__law_draw hr (by omega) rfl (pa_cons (pv 0) (pa_cons pe_int pa_nil))))) pa_nil)))))))) pss_nil)
    (pss_cons (ps_if (pt_cmpR (op_inK K) (pv 5) (pe_tup (pa_cons pe_int (pa_cons pe_int pa_nil))) rfl) (pss_cons (pset 11 nd (pf c__law_one hr (by omega) rfl (pa_cons (pv 0) (pa_cons (pe_op op_cat (pv 3) (pe_lst (pa_cons (pf c__law_word hr (by omega) rfl (pa_cons (pv 0) pa_nil)) (pa_cons pe_str pa_nil)))) pa_nil))))
      (pss_cons (pset 12 nd (pf c__law_generator hr (by omega) rfl (pa_cons (pv 0) (pa_cons (pe_ix (ix_listK K) (pv 6) pe_int (fun _ _ => rfl)) (pa_cons (pe_op op_sub (pv 2) pe_int) (pa_cons (pv 3) (pa_cons (pv 4) pa_nil)))))))
      (pss_one (ps_ret (pe_tup (pa_cons pe_str (pa_cons (pv 11) (pa_cons (pv 12) (pa_cons (pf c__law_generator hr (by omega) rfl (pa_cons (pv 0) (pa_cons (pe_ix (ix_listK K) (pv 6) pe_int (fun _ _ => rfl)) (pa_cons (pe_op op_sub (pv 2) pe_int) (pa_cons (pe_op op_cat (pv 3) (pe_lst (pa_cons (pv 11) pa_nil))) (pa_cons (pv 4) pa_nil)))))) pa_nil))))))))) pss_nil)
    (pss_cons (ps_if (pt_cmpR op_eq (pv 5) pe_int (nomark _)) (pss_cons (pset 12 nd (pf c__law_generator hr (by omega) rfl (pa_cons (pv 0) (pa_cons (pe_ix (ix_listK K) (pv 6) pe_int (fun _ _ => rfl)) (pa_cons (pe_op op_sub (pv 2) pe_int) (pa_cons (pv 3) (pa_cons (pv 4) pa_nil)))))))
      (pss_one (ps_ret (pe_tup (pa_cons pe_str (pa_cons (pf c__law_draw hr (by omega) rfl (pa_cons (pv 0) (pa_cons pe_int pa_nil))) (pa_cons (pv 12) (pa_cons (pf c__law_generator hr (by omega) rfl (pa_cons (pv 0) (pa_cons (pe_ix (ix_listK K) (pv 6) pe_int (fun _ _ => rfl)) (pa_cons (pe_op op_sub (pv 2) pe_int) (pa_cons (pv 3) (pa_cons pe_bl pa_nil)))))) pa_nil)))))))) pss_nil)
    (pss_cons (pset 13 nd (pf c__law_generator hr (by omega) rfl (pa_cons (pv 0) (pa_cons (pe_op op_sub (pv 1) pe_int) (pa_cons (pe_op op_sub (pv 2) pe_int) (pa_cons (pv 3) (pa_cons (pv 4) pa_nil)))))))
    (pss_cons (ps_if (pt_cmpR op_eq (pv 5) pe_int (nomark _)) (pss_one (ps_ret (pe_tup (pa_cons pe_str (pa_cons (pf c__law_one hr (by omega) rfl (pa_cons (pv 0) (pa_cons (pv 3) pa_nil))) (pa_cons (pv 13) pa_nil)))))) pss_nil)
    (pss_cons (ps_if (pt_cmpR op_eq (pv 5) pe_int (nomark _)) (pss_cons (pset 14 nd (pf c__law_draw hr (by omega) rfl (pa_cons (pv 0) (pa_cons pe_int pa_nil))))
      (pss_one (ps_ret (pe_tup (pa_cons pe_str (pa_cons (pv 14) (pa_cons (pe_op op_add (pv 14) (pf c__law_draw hr (by omega) rfl (pa_cons (pv 0) (pa_cons (pe_op op_sub pe_int (pv 14)) pa_nil)))) (pa_cons (pv 13) pa_nil)))))))) pss_nil)
    (pss_cons (ps_if (pt_cmpR op_eq (pv 5) pe_int (nomark _)) (pss_cons (pset 15 nd (pe_lst (pa_cons pe_str (pa_cons pe_str (pa_cons pe_str (pa_cons pe_str (pa_cons pe_str (pa_cons pe_str (pa_cons pe_str (pa_cons pe_str pa_nil))))))))))
      (pss_one (ps_ret (pe_tup (pa_cons pe_str (pa_cons (pf c__law_one hr (by omega) rfl (pa_cons (pv 0) (pa_cons (pv 15) pa_nil))) (pa_cons (pv 13) pa_nil))))))) pss_nil)
    (pss_cons (pset 16 nd (pe_lst (pa_cons pe_str (pa_cons pe_str (pa_cons pe_str (pa_cons pe_str (pa_cons pe_str (pa_cons pe_str (pa_cons pe_str pa_nil)))))))))
    (pss_one (ps_ret (pe_tup (pa_cons pe_str (pa_cons (pf c__law_one hr (by omega) rfl (pa_cons (pv 0) (pa_cons (pv 16) pa_nil))) (pa_cons (pf c__law_draw hr (by omega) rfl (pa_cons (pv 0) (pa_cons pe_int pa_nil))) (pa_cons (pv 13) pa_nil)))))))))))))))))), ?_⟩
  refine ⟨_, rfl, z, k, _, rfl, st, by omega, by decide, by decide, fun H1 way d1 h1 h1' => ?_⟩
  have k1 := d1.le
  have leaf : ∀ (Qx : VK) (Ex : XK) (H2 : Hp), Same H1 H2 → (∀ v H', Qx v H' = Q v H') → sp_lleaf [.ref z.s, .ref nl, .bl gr] H2 Qx Ex := fun Qx Ex H2 s2 e =>
    ⟨z, k + 1, ns, nl, gr, rfl, (hn.dw st d1).same s2, d1.st.same s2, by omega, fun H' k' v d d2 rv lf => by
      rw [e]
      exact q _ _ v d (((d1.same s2).trans d2).up (by omega)) rv (vg_leaf lf hr1)⟩
  refine ⟨fun σ' H' => σ' = [some (.ref z.s), some (.int room), some (.int n), some (.ref nl), some (.bl gr), some (.int way), none, none, none, none, none, none, none, none, none, none, none] ∧ Same H1 H' ∧ 3 ≤ room ∧ 1 ≤ n ∧ 2 ≤ way ∧ (way = 9 → 1 ≤ ns.length), ?_, ?_⟩
  · refine ⟨_, rfl, _, _, rfl, rfl, _, rfl, ?_⟩
    by_cases hroom : (room : Int) < 3
    · rw [decide_eq_true hroom]
      exact iteT ⟨_, rfl, _, rfl, _, rfl, leaf _ E0 _ (Same.refl _) fun _ _ => rfl⟩
    rw [decide_eq_false hroom]
    refine iteF ⟨_, rfl, rfl, _, rfl, ?_⟩
    by_cases hn0 : n = 0
    · rw [decide_eq_true (show V.int (n : Int) = V.int 0 by rw [hn0]; rfl)]
      exact iteT ⟨_, rfl, _, rfl, _, rfl, leaf _ E0 _ (Same.refl _) fun _ _ => rfl⟩
    rw [decide_eq_false (show ¬ V.int (n : Int) = V.int 0 from fun e => by have := V.int.inj e; omega)]
    refine iteF ⟨_, rfl, _, _, rfl, rfl, _, rfl, ?_⟩
    by_cases hw2 : way < 2
    · rw [decide_eq_true hw2]
      exact iteT ⟨_, rfl, _, rfl, _, rfl, leaf _ E0 _ (Same.refl _) fun _ _ => rfl⟩
    rw [decide_eq_false hw2]
    refine iteF ⟨_, rfl, rfl, _, rfl, ?_⟩
    by_cases hw9 : way = 9
    · rw [decide_eq_true (show V.int way = V.int 9 by rw [hw9])]
      have hn1 := hn.dw st d1
      refine iteT ⟨_, rfl, lsz, fun q0 hq0 => ⟨nl, q0, _, rfl, rfl, sql (up_ne hn1.e hq0), sql upd_same, _, rfl, ?_⟩⟩
      by_cases hns : ns = []
      · rw [show ((ns.map fun x => V.str (S x)).isEmpty != false) = true by rw [hns]; rfl]
        exact iteT ⟨_, rfl, _, rfl, _, rfl, leaf _ E0 _ ((Same.refl _).new hq0) fun _ _ => rfl⟩
      · have hl1 : 1 ≤ ns.length := by
          cases ns with
          | nil => exact absurd rfl hns
          | cons => exact Nat.succ_le_succ (Nat.zero_le _)
        rw [show ((ns.map fun x => V.str (S x)).isEmpty != false) = false by cases ns with | nil => exact absurd rfl hns | cons => rfl]
        exact iteF ⟨rfl, (Same.refl _).new hq0, by omega, by omega, by omega, fun _ => hl1⟩
    · rw [decide_eq_false (show ¬ V.int way = V.int 9 from fun e => hw9 (V.int.inj e))]
      exact iteF ⟨rfl, Same.refl _, by omega, by omega, by omega, fun e => absurd e hw9⟩
  rintro σ' H2 ⟨rfl, s2, h3, hn1, hw2, hw9⟩
  (obtain ⟨m, rfl⟩ : ∃ m, n = m + 1 := ⟨n - 1, by omega⟩)
  have eC : gC (m + 1) = cL + 60 + 6 * gC m := rfl
  have d2 := d1.same s2
  have hn2 := hn.dw st d2
  clear d1
  refine ⟨_, rfl, _, rfl, _, _, rfl, rfl, z, k + 1, room - 1, 2, ?_, by decide, by omega, by omega, d2.st, by omega, fun H3 k3 p2 rs d3 hp2 ep2 lrs hrs srs => ?_⟩
  · show [V.ref z.s, V.int ((room : Int) - 1), V.int 2] = _
    rw [show (room : Int) - 1 = ((room - 1 : Nat) : Int) by omega]
    rfl
  obtain ⟨ra, rb, rfl⟩ : ∃ a b, rs = [a, b] := by
    match rs, lrs with
    | [a, b], _ => exact ⟨a, b, rfl⟩
  have hra := hrs ra (.head _)
  have hrb := hrs rb (.tail _ (.head _))
  have srs' : ra + (rb + 0) ≤ room - 1 := srs
  have np := d2.st.fresh hp2
  have d23 := (d2.trans d3).up (show _ ≤ 3 by omega)
  have hn3 := hn2.dw d2.st d3
  clear d3 hp2
  refine ⟨_, rfl, lsz, fun t ht => ⟨t, _, rfl, .inr (sqt upd_same), rfl, rfl, _, rfl, ?_⟩⟩
  rw [if_neg Bool.false_ne_true, show inV (.int way) [.int 2, .int 3, .int 4] = decide (way ∈ [2, 3, 4]) from inV_int way [2, 3, 4]]
  have d4 := d23.new ht (o := .tup [.int 2, .int 3, .int 4])
  have hn4 := hn3.same ((Same.refl H3).new ht (o := .tup [.int 2, .int 3, .int 4]))
  have ep4 := ((Same.refl H3).new ht (o := .tup [.int 2, .int 3, .int 4])) _ _ ep2
  generalize (upd H3 t (.tup [.int 2, .int 3, .int 4])) = H4 at *
  have k4 := d4.le
  by_cases hin : way ∈ ([2, 3, 4] : List Int)
  · rw [decide_eq_true hin]
    refine iteT ⟨_, rfl, _, rfl, _, _, rfl, rfl, _, rfl, _, rfl, _, _, rfl, rfl, _, _, rfl, z, k3, _, rfl, d4.st, by omega, ?_, ?_, fun H5 j d5 h5 h5' => ⟨_, _, rfl, rfl, ?_⟩⟩
    · split <;> omega
    · split <;> omega
    obtain ⟨jn, rfl⟩ : ∃ n : Nat, j = (n : Int) := ⟨j.toNat, by omega⟩
    have hj : jn + 1 ≤ 6 ∧ jn + 1 ≤ room - 1 := by split at h5' <;> omega
    refine ⟨z, k3 + 1, room - 1, jn + 1, ?_, by omega, hj.2, by omega, d5.st, by omega, fun H6 k6 p rs d6 hp ep lrs hrs srs => ?_⟩
    · show [V.ref z.s, V.int ((room : Int) - 1), V.int ((jn : Int) + 1)] = _
      rw [show (room : Int) - 1 = ((room - 1 : Nat) : Int) by omega]
      rfl
    have np := d5.st.fresh hp
    have k6le := d6.le
    have hn6 := (hn4.dw d4.st d5).dw d5.st d6
    have d46 := (d4.trans (d5.trans d6)).up (show _ ≤ 10 by omega)
    refine ⟨_, rfl, p, rfl, ⟨_, sql ep⟩, fun D hD => ?_⟩
    have mle : rs.length * gC m ≤ 6 * gC m := Nat.mul_le_mul_right _ (by omega)
    refine lc_it (walk_list (xs := rs.map fun r : Nat => V.int (r : Int))) (CDw z (fun j H v => ∃ d r, Rep H v d ∧ rs[j]? = some r ∧ VG (m + 1) r (d, ns, gr)) (gC m) H6 k6 D) (cdw_start d6.st hD) (fun i H2 _ ⟨k', d, _⟩ => sql (d.kp _ _ np.1 np.2.1 ep)) ?_ ?_
    · rintro i' x H7 H8 hi ⟨k7, d7, ys, ey, ly, ry⟩ ⟨rfl, hx⟩
      rw [List.length_map] at hi
      rw [List.getElem?_map, List.getElem?_eq_getElem hi] at hx
      cases hx
      have hri := hrs _ (List.getElem_mem hi)
      have hrl : rs[i'] ≤ room - 1 := Nat.le_trans (le_sum_mem (List.getElem_mem hi)) srs
      have := d7.le
      have : i' * gC m + gC m ≤ rs.length * gC m := by
        rw [← Nat.succ_mul]
        exact Nat.mul_le_mul_right _ hi
      refine ⟨rfl, _, rfl, _, rfl, _, rfl, _, _, rfl, rfl, _, rfl, _, rfl, N - 1, by omega, z, k7, rs[i'], m, ns, nl, gr, ?_, by omega, hri, by omega, by omega, hn6.dw d6.st d7, d7.st, by omega, fun H9 k9 v d d9 hv hd => ?_⟩
      · show [V.ref z.s, V.int _, V.int (((m + 1 : Nat) : Int) - 1), V.ref nl, V.bl gr] = _
        rw [show ((m + 1 : Nat) : Int) - 1 = (m : Int) by omega]
      · exact cdw_step (fun _ _ _ _ g ⟨d, r, rr, e, v⟩ => ⟨d, r, rr.gr g, e, v⟩) d6.st hD (by omega) d7 ey ly ry d9 ⟨d, rs[i'], hv, List.getElem?_eq_getElem hi, hd⟩
    · rintro H7 ⟨k7, d7, ys, ey, ly, ry⟩
      rw [List.length_map] at d7 ly
      obtain ⟨ds, rds, pds⟩ := ex_reps (Pd := fun j d => ∃ r, rs[j]? = some r ∧ VG (m + 1) r (d, ns, gr)) fun j y h => by
        obtain ⟨d, r, a, b, c⟩ := ry j y h
        exact ⟨d, a, r, b, c⟩
      have lds : ds.length = rs.length := by rw [← rds.1, ly]
      have d47 := (d46.trans d7).up (show _ ≤ 10 + 6 * gC m by omega)
      have k7le := d47.le
      (refine ⟨_, rfl, rfl, _, rfl, ?_⟩)
      by_cases hw : way = 2
      · rw [decide_eq_true (show V.int way = V.int 2 by rw [hw])]
        refine iteT ⟨_, rfl, D, rfl, ⟨_, sql ey⟩, fun C hC => ?_⟩
        have nD := d6.st.fresh hD
        refine lc_it (walk_list (xs := ys)) (CDw z (fun j H v => ∃ d i, Rep H v (.tup [.int i, d]) ∧ 1 ≤ i ∧ i ≤ 9 ∧ ds[j]? = some d) 1 H7 k7 C) (cdw_start d7.st hC) (fun i H2 _ ⟨k', d, _⟩ => sql (d.kp _ _ nD.1 nD.2.1 ey)) ?_ ?_
        · rintro i' x H8 H9 hi ⟨k8, d8, ws, ew, lw, rw'⟩ ⟨rfl, hx⟩
          obtain ⟨d, hd, rd⟩ := rds.getV hx
          have := d8.le
          refine ⟨rfl, _, rfl, z, k8, _, rfl, d8.st, by omega, by decide, by decide, fun HA i dA hi1 hi2 => ⟨_, _, rfl, rfl, _, rfl, lsz, fun u hu => ?_⟩⟩
          refine cdw_step (fun _ _ _ _ g ⟨d, i, r, e⟩ => ⟨d, i, r.gr g, e⟩) d7.st hC (by omega) d8 ew lw rw' (dA.new hu (o := .tup [.int (1 + i), x])) ⟨d, 1 + i, reps_tup upd_same (Reps.cons (.int _) (Reps.cons (rd.gr ((d8.gr d7.st).trans ((dA.gr d8.st).trans (.of ((Same.refl HA).new hu))))) Reps.nil)), by omega, by omega, hd⟩
        · rintro H8 ⟨k8, d8, ws, ew, lw, rw'⟩
          refine ⟨C, ws, rfl, .inl ⟨sql ew, fun U hU => ⟨lsz, fun V1 hV1 => ?_⟩⟩⟩
          obtain ⟨es, res, pes⟩ := ex_reps (Pd := fun j e => ∃ (i : Int) (d : K6.D), e = .tup [.int i, d] ∧ 1 ≤ i ∧ i ≤ 9 ∧ ds[j]? = some d) fun j y h => by
            obtain ⟨d, i, a, b⟩ := rw' j y h
            exact ⟨_, a, i, d, rfl, b⟩
          have les : es.length = ds.length := by rw [← res.1, lw, rds.1]
          obtain ⟨ps, rfl, hps, rfl⟩ := pairs_of les pes
          have g8 : Gr H8 _ := .of (((Same.refl H8).new hU (o := .tup ws)).new hV1 (o := .tup [.str "mix", .ref U]))
          rw [List.length_map] at lds
          refine q _ _ _ (gnD "mix" [.tup (ps.map fun p => .tup [.int p.1, p.2])]) ((((d47.trans d8).new hU).new hV1).up (by have := rds.1; rw [List.length_map] at this; omega)) (rep2 upd_same (reps_tup (up_ne upd_same hV1) (res.gr g8))) ?_
          refine vg_many (rs := rs) (ok_mix (by omega) (by omega) hps) kids_mix (by rw [List.length_map]; omega) (fun j d r hd hr => ?_) (by omega)
          obtain ⟨r', e, v⟩ := pds j d hd
          rw [hr] at e
          cases e
          exact v
      · rw [decide_eq_false (show ¬ V.int way = V.int 2 from fun e => hw (V.int.inj e))]
        refine iteF ⟨_, rfl, D, ys, rfl, .inl ⟨sql ey, fun T hT => ?_⟩⟩
        have allv : ∀ n, VG (m + 1 + 1) room (gnD "all" [.tup (ds.take n)], ns, gr) := fun n => vg_many (ds := ds.take n) (rs := rs) (ok_all (by rw [List.length_take]; omega)) sc_all (by rw [List.length_take]; omega) (fun j d r hd hr => by
          rw [List.getElem?_take] at hd
          split at hd
          · obtain ⟨r', e, v⟩ := pds j d hd
            rw [hr] at e
            cases e
            exact v
          · cases hd) (by omega)
        refine ⟨_, rfl, z, k7, _, rfl, d7.st.new hT, by omega, by decide, by decide, fun H9 j d9 h9 h9' => ⟨_, rfl, T, ys, rfl, sqt ((d9.gr (d7.st.new hT)).1 _ _ upd_same), fun hw => ⟨lsz, fun U hU => ?_⟩, fun hw p hp => ⟨lsz, fun U hU => ?_⟩⟩⟩
        · have gT := d9.gr (d7.st.new hT)
          have rT : Rep H9 (.ref T) (.tup ds) := reps_tup (gT.1 _ _ upd_same) (rds.gr ((Gr.of ((Same.refl H7).new hT)).trans gT))
          have v := allv ds.length
          rw [List.take_length] at v
          exact q _ _ _ _ ((((d47.new hT).trans d9).new hU).up (by omega)) (rep2 upd_same (rT.same ((Same.refl H9).new hU))) v
        · have gT := d9.gr (d7.st.new hT)
          have rT : All2 (Rep H9) ys ds := rds.gr ((Gr.of ((Same.refl H7).new hT)).trans gT)
          have rc : Reps H9 (cutV ys none (some j)) (ds.take (HT.sIx ys.length ys.length (some j))) := All2.take rT _
          have rp : Rep (upd H9 p (.tup (cutV ys none (some j)))) (.ref p) (.tup (ds.take (HT.sIx ys.length ys.length (some j)))) := reps_tup upd_same (rc.same ((Same.refl H9).new hp))
          exact q _ _ _ _ (((((d47.new hT).trans d9).new hp).new hU).up (by omega)) (rep2 upd_same (rp.same ((Same.refl _).new hU))) (allv _)
  rw [decide_eq_false hin]
  refine iteF ⟨_, rfl, lsz, fun t ht => ⟨t, _, rfl, .inr (sqt upd_same), rfl, rfl, _, rfl, ?_⟩⟩
  rw [if_neg Bool.false_ne_true, show inV (.int way) [.int 7, .int 8] = decide (way ∈ [7, 8]) from inV_int way [7, 8]]
  have d5 := d4.new ht (o := .tup [.int 7, .int 8])
  have hn5 := hn4.same ((Same.refl H4).new ht (o := .tup [.int 7, .int 8]))
  have ep5 := ((Same.refl H4).new ht (o := .tup [.int 7, .int 8])) _ _ ep4
  generalize (upd H4 t (.tup [.int 7, .int 8])) = H5 at *
  have k5 := d5.le
  have inner : ∀ (Qx : VK) (Ex : XK) (H6 : Hp) (k6 r : Nat) (ns6 : Nms) (nl6 : Addr) (gr6 : Bool), NmL z ns6 nl6 H6 → St z H6 k6 → k6 + gC m ≤ KM → 1 ≤ r → r ≤ 24 → ns6.length + m ≤ 10 →
      (∀ H7 k7 v d, Dw z (gC m) H6 k6 H7 k7 → Rep H7 v d → VG (m + 1) r (d, ns6, gr6) → Qx v H7) → ∃ M, N = M + 1 ∧ sp_lgen M [.ref z.s, .int (r : Int), .int (((m + 1 : Nat) : Int) - 1), .ref nl6, .bl gr6] H6 Qx Ex := fun Qx Ex H6 k6 r ns6 nl6 gr6 a b c e1 e2 e3 q6 =>
    ⟨N - 1, by omega, z, k6, r, m, ns6, nl6, gr6, by rw [show ((m + 1 : Nat) : Int) - 1 = (m : Int) by omega], by omega, e1, e2, e3, a, b, c, q6⟩
  by_cases hin2 : way ∈ ([7, 8] : List Int)
  · rw [decide_eq_true hin2]
    refine iteT ⟨_, rfl, _, rfl, _, rfl, z, k3, rfl, d5.st, by omega, fun H6 k6 w6 d6 hw6 => ⟨lsz, fun t1 ht1 => ?_⟩⟩
    have hn6 := (hn5.dw d5.st d6).same ((Same.refl H6).new ht1 (o := .lst [.str (S w6), .str "x"]))
    refine ⟨nl, t1, _, _, rfl, rfl, hn6.e, upd_same, sizes' (by rw [List.length_map]; show ns.length + 2 ≤ _; omega), fun t2 ht2 => ?_⟩
    have d6' := ((d5.trans d6).new ht1 (o := .lst [.str (S w6), .str "x"])).new ht2 (o := .lst ((ns.map fun x => V.str (S x)) ++ [.str (S w6), .str "x"]))
    have k6le := d6'.le
    refine ⟨z, k6, t2, _, rfl, d6'.st, by omega, upd_same, ((((d5.trans d6).new ht1).st).fresh ht2).2.1, by rw [List.length_append]; exact Nat.le_add_left _ _, by rw [List.length_append, List.length_map]; show ns.length + 2 ≤ _; omega, fun H7 y d7 hy => ?_⟩
    obtain ⟨x, rfl, hx⟩ : ∃ x, y = V.str (S x) ∧ isNm x = true := by
      (rcases List.mem_append.mp hy with hy | hy)
      · obtain ⟨x, hx, e⟩ := List.mem_map.mp hy
        exact ⟨x, e.symm, hn.nm x hx⟩
      (rcases List.mem_cons.mp hy with rfl | hy)
      · exact ⟨w6, rfl, hw6⟩
      rw [List.mem_singleton] at hy
      exact ⟨W "x", by rw [hy, S_W], by decide +kernel⟩
    have d57 := (d6'.trans d7).up (show _ ≤ 14 by omega)
    have hn7 := (hn6.same ((Same.refl _).new ht2)).dw d6'.st d7
    have ep7 := d7.kp _ _ np.1 np.2.1 (((Same.refl H6).new ht1 (o := .lst [.str (S w6), .str "x"])).new ht2 (o := .lst ((ns.map fun x => V.str (S x)) ++ [.str (S w6), .str "x"])) _ _ (d6.kp _ _ np.1 np.2.1 ep5))
    have k7le := d57.le
    refine ⟨_, rfl, _, rfl, p2, _, _, _, rfl, rfl, sql ep7, atI_nat (j := 0) rfl, _, rfl, _, _, rfl, rfl, _, rfl, _, rfl, inner _ E0 _ _ ra ns nl gr hn7 d57.st (by omega) hra (by omega) (by omega) fun H8 k8 v1 c1 d8 rv1 vg1 => ?_⟩
    have ep8 := d8.kp _ _ np.1 np.2.1 ep7
    have hn8 := hn7.dw d57.st d8
    have d58 := d57.trans d8
    have k8le := d58.le
    refine ⟨_, rfl, _, rfl, _, rfl, _, rfl, p2, _, _, _, rfl, rfl, sql ep8, atI_nat (j := 1) rfl, _, rfl, _, _, rfl, rfl, _, rfl, _, rfl, lsz, fun s1 hs1 => ⟨nl, s1, _, _, rfl, rfl, up_ne hn8.e hs1, upd_same, sizes' (by rw [List.length_map]; show ns.length + 1 ≤ _; omega), fun s2 hs2 => ?_⟩⟩
    have dB := (d58.new hs1 (o := .lst [.str (S x)])).new hs2 (o := .lst ((ns.map fun x => V.str (S x)) ++ [.str (S x)]))
    have hnB : NmL z (ns ++ [x]) s2 (upd (upd H8 s1 (.lst [.str (S x)])) s2 (.lst ((ns.map fun x => V.str (S x)) ++ [.str (S x)]))) := by
      refine ⟨?_, ((d58.new hs1).st.fresh hs2).2.1, fun y hy => ?_, by rw [List.length_append]; show ns.length + 1 ≤ _; omega⟩
      · rw [upd_same, List.map_append]
        rfl
      · rcases List.mem_append.mp hy with hy | hy
        · exact hn.nm y hy
        · rw [List.mem_singleton] at hy
          rw [hy]
          exact hx
    refine ⟨_, rfl, inner _ E0 _ _ rb (ns ++ [x]) s2 gr hnB dB.st (by omega) hrb (by omega) (by rw [List.length_append]; show ns.length + 1 + m ≤ 10; omega) fun H9 k9 v2 c2 d9 rv2 vg2 => ⟨lsz, fun U hU => ?_⟩⟩
    have g9 := (Gr.of (((Same.refl H8).new hs1 (o := .lst [.str (S x)])).new hs2 (o := .lst ((ns.map fun x => V.str (S x)) ++ [.str (S x)])))).trans (d9.gr dB.st)
    have gU : Gr H9 _ := Gr.of ((Same.refl H9).new hU (o := .tup [.str "let", .str (S x), v1, v2]))
    exact q _ _ _ _ (((dB.trans d9).new hU).up (by omega)) (rep4 upd_same (.str x (isNm_len hx)) (rv1.gr (g9.trans gU)) (rv2.gr gU)) (vg_two (ok_let hx) sc_let vg1 vg2 (by omega))
  rw [decide_eq_false hin2]
  refine iteF ⟨_, rfl, rfl, _, rfl, ?_⟩
  by_cases hw10 : way = 10
  · rw [decide_eq_true (show V.int way = V.int 10 by rw [hw10])]
    refine iteT ⟨_, rfl, _, rfl, p2, _, _, _, rfl, rfl, sql ep5, atI_nat (j := 0) rfl, _, rfl, _, _, rfl, rfl, _, rfl, _, rfl, inner _ E0 _ _ ra ns nl gr hn5 d5.st (by omega) hra (by omega) (by omega) fun H8 k8 v1 c1 d8 rv1 vg1 => ?_⟩
    have ep8 := d8.kp _ _ np.1 np.2.1 ep5
    have hn8 := hn5.dw d5.st d8
    have d58 := d5.trans d8
    have k8le := d58.le
    refine ⟨_, rfl, z, k8, _, rfl, d58.st, by omega, by decide, by decide, fun H9 i d9 h9 h9' => ?_⟩
    have ep9 := d9.kp _ _ np.1 np.2.1 ep8
    have hn9 := hn8.dw d58.st d9
    have d59 := d58.trans d9
    have k9le := d59.le
    refine ⟨_, rfl, _, rfl, _, rfl, p2, _, _, _, rfl, rfl, sql ep9, atI_nat (j := 1) rfl, _, rfl, _, _, rfl, rfl, _, rfl, inner _ E0 _ _ rb ns nl true hn9 d59.st (by omega) hrb (by omega) (by omega) fun HA kA v2 c2 dA rv2 vg2 => ⟨lsz, fun U hU => ?_⟩⟩
    have g9 := (d9.gr d58.st).trans (dA.gr d59.st)
    have gU : Gr HA _ := Gr.of ((Same.refl HA).new hU (o := .tup [.str "grow", .int i, v1, v2]))
    exact q _ _ _ _ (((d59.trans dA).new hU).up (by omega)) (rep4 upd_same (.int i) (rv1.gr (g9.trans gU)) (rv2.gr gU)) (vg_two (ok_grow h9 (by omega)) sc_grow vg1 vg2 (by omega))
  rw [decide_eq_false (show ¬ V.int way = V.int 10 from fun e => hw10 (V.int.inj e))]
  refine iteF ⟨_, rfl, _, rfl, _, _, rfl, rfl, _, rfl, _, _, rfl, rfl, _, rfl, _, rfl, ?_⟩
  show ∃ M, N = M + 1 ∧ sp_lgen M [.ref z.s, .int ((room : Int) - 1), .int (((m + 1 : Nat) : Int) - 1), .ref nl, .bl gr] H5 _ _
  rw [show (room : Int) - 1 = ((room - 1 : Nat) : Int) by omega]
  refine inner _ E0 _ _ (room - 1) ns nl gr hn5 d5.st (by omega) (by omega) (by omega) (by omega) fun H6 k6 v1 c1 d6 rv1 vg1 => ?_
  have hn6 := hn5.dw d5.st d6
  have d56 := d5.trans d6
  have k6le := d56.le
  (refine ⟨_, rfl, rfl, _, rfl, ?_⟩)
  by_cases w9 : way = 9
  · rw [decide_eq_true (show V.int way = V.int 9 by rw [w9])]
    have nsl := hn6.z
    refine iteT ⟨_, rfl, _, rfl, z, k6, nl, _, rfl, d56.st, by omega, hn6.e, hn6.n, by rw [List.length_map]; exact hw9 w9, by rw [List.length_map]; omega, fun H7 y d7 hy => ⟨_, rfl, lsz, fun U hU => ?_⟩⟩
    obtain ⟨x, hx, rfl⟩ := List.mem_map.mp hy
    have gU : Gr H7 _ := Gr.of ((Same.refl H7).new hU (o := .tup [.str "times", .str (S x), v1]))
    exact q _ _ _ _ (((d56.trans d7).new hU).up (by omega)) (rep3 upd_same (.str x (isNm_len (hn.nm x hx))) (rv1.gr ((d7.gr d56.st).trans gU))) (vg_one (ok_times (hn.nm x hx) hx) sc_times vg1 (by omega))
  rw [decide_eq_false (show ¬ V.int way = V.int 9 from fun e => w9 (V.int.inj e))]
  refine iteF ⟨_, rfl, rfl, _, rfl, ?_⟩
  by_cases w5 : way = 5
  · rw [decide_eq_true (show V.int way = V.int 5 by rw [w5])]
    refine iteT ⟨_, rfl, z, k6, _, rfl, d56.st, by omega, by decide, by decide, fun H7 i d7 h7 h7' => ?_⟩
    have d57 := d56.trans d7
    have k7le := d57.le
    refine ⟨_, rfl, _, rfl, _, rfl, _, rfl, _, _, rfl, rfl, z, _, _, rfl, d57.st, by omega, by omega, by omega, fun H8 j d8 h8 h8' => ⟨_, _, rfl, rfl, _, rfl, lsz, fun U hU => ?_⟩⟩
    have gU : Gr H8 _ := Gr.of ((Same.refl H8).new hU (o := .tup [.str "row", .int i, .int (i + j), v1]))
    exact q _ _ _ _ (((d57.trans d8).new hU).up (by omega)) (rep4 upd_same (.int i) (.int _) (rv1.gr ((d7.gr d56.st).trans ((d8.gr d57.st).trans gU)))) (vg_one (ok_row h7 (by omega) (by omega)) sc_row vg1 (by omega))
  rw [decide_eq_false (show ¬ V.int way = V.int 5 from fun e => w5 (V.int.inj e))]
  refine iteF ⟨_, rfl, rfl, _, rfl, ?_⟩
  by_cases w6 : way = 6
  · rw [decide_eq_true (show V.int way = V.int 6 by rw [w6])]
    refine iteT ⟨lsz, fun t1 ht1 => ?_⟩
    have d6t := d56.new ht1 (o := .lst (turnS.map fun s => V.str (Str.ofString s)))
    refine ⟨_, rfl, _, rfl, z, k6, t1, turnS.map fun s => V.str (Str.ofString s), rfl, d6t.st, by omega, upd_same, (d56.st.fresh ht1).2.1, by decide, by decide, fun H7 y d7 hy => ⟨_, rfl, lsz, fun U hU => ?_⟩⟩
    obtain ⟨x, rfl, hx, lx⟩ := mem_words (by decide +kernel) hy
    have gU : Gr H7 _ := Gr.of ((Same.refl H7).new hU (o := .tup [.str "turn", .str (S x), v1]))
    exact q _ _ _ _ (((d6t.trans d7).new hU).up (by omega)) (rep3 upd_same (.str x lx) (rv1.gr ((Gr.of ((Same.refl H6).new ht1)).trans ((d7.gr d6t.st).trans gU)))) (vg_one (ok_turn hx) sc_turn vg1 (by omega))
  rw [decide_eq_false (show ¬ V.int way = V.int 6 from fun e => w6 (V.int.inj e))]
  refine iteF ⟨lsz, fun t1 ht1 => ?_⟩
  have d6t := d56.new ht1 (o := .lst (testS.map fun s => V.str (Str.ofString s)))
  refine ⟨_, rfl, _, rfl, z, k6, t1, testS.map fun s => V.str (Str.ofString s), rfl, d6t.st, by omega, upd_same, (d56.st.fresh ht1).2.1, by decide, by decide, fun H7 y d7 hy => ?_⟩
  have d67 := d6t.trans d7
  have k67 := d67.le
  refine ⟨_, rfl, z, _, _, rfl, d67.st, by omega, by decide, by decide, fun H8 i d8 h8 h8' => ⟨_, rfl, lsz, fun U hU => ?_⟩⟩
  obtain ⟨x, rfl, hx, lx⟩ := mem_words (by decide +kernel) hy
  have gU : Gr H8 _ := Gr.of ((Same.refl H8).new hU (o := .tup [.str "keep", .str (S x), .int i, v1]))
  exact q _ _ _ _ (((d67.trans d8).new hU).up (by omega)) (rep4 upd_same (.str x lx) (.int i) (rv1.gr ((Gr.of ((Same.refl H6).new ht1)).trans ((d7.gr d6t.st).trans ((d8.gr d67.st).trans gU))))) (vg_one (ok_keep hx h8 (by omega)) sc_keep vg1 (by omega))
theorem cl__law_generator (F : Df K mg "_law_generator" s__law_generator ["_law_state", "_law_room", "_law_deep", "_law_names", "_law_grows"]) (T : Tx mg) (c__law_draw : Cl P w K mg base 2 "_law_draw" sp_draw) (c__law_one : Cl P w K mg base 3 "_law_one" sp_one)
    (c__law_word : Cl P w K mg base 4 "_law_word" sp_word) (c__law_leaf : Cl P w K mg base 12 "_law_leaf" sp_lleaf) (c__law_rooms : Cl P w K mg base 3 "_law_rooms" sp_rooms) :
    ∀ N : Nat, Cl P w K mg base (N + 13) "_law_generator" (sp_lgen N)
  | 0 => cl__law_generator1 F T c__law_draw c__law_one c__law_word c__law_leaf c__law_rooms 0 ((F.cl (k := 11) sc__law_generator (sp := fun _ _ _ _ => False) (fun _ _ _ _ h => h.elim) (fun _ _ _ _ _ _ _ _ _ _ h => h.elim)).imp fun _ _ _ _ ⟨_, h, _⟩ => by omega)
  | N + 1 => cl__law_generator1 F T c__law_draw c__law_one c__law_word c__law_leaf c__law_rooms (N + 1) ((cl__law_generator F T c__law_draw c__law_one c__law_word c__law_leaf c__law_rooms N).imp fun _ _ _ _ ⟨M, h, q⟩ => by
      have e : M = N := by omega
      rw [← e]
      exact q)
end
end K6
set_option maxHeartbeats 4000001
namespace K6
open L2 PySem PySem.Spec PyProof.Rows
def bdd : Nat → D → Bool
  | 0, .tup _ => false
  | n + 1, .tup ds => decide (ds.length ≤ 1000) && ds.all (bdd n)
  | _, _ => true
theorem bdd_tup {n : Nat} {ds : List D} (h : bdd n (.tup ds) = true) : ∃ m, n = m + 1 ∧ ds.length ≤ 1000 ∧ ∀ d ∈ ds, bdd m d = true := by
  cases n with
  | zero => cases h
  | succ m =>
    have h2 : (decide (ds.length ≤ 1000) && ds.all (bdd m)) = true := h
    rw [Bool.and_eq_true, decide_eq_true_eq, List.all_eq_true] at h2
    exact ⟨m, rfl, h2.1, h2.2⟩
theorem bdd_mk {n : Nat} {ds : List D} (h : ds.length ≤ 1000) (k : ∀ d ∈ ds, bdd n d = true) : bdd (n + 1) (.tup ds) = true := by
  show (decide (ds.length ≤ 1000) && ds.all (bdd n)) = true
  rw [decide_eq_true h, Bool.true_and, List.all_eq_true]
  exact k
theorem bdd_flat {n : Nat} {d : D} (h : ∀ ds, d ≠ .tup ds) : bdd n d = true := by
  cases d with
  | tup ds => exact absurd rfl (h ds)
  | _ => cases n <;> rfl
theorem bdd_mono : ∀ {n m : Nat} {d : D}, bdd n d = true → n ≤ m → bdd m d = true
  | n, m, .tup ds, h, l => by
    obtain ⟨k, rfl, h1, h2⟩ := bdd_tup h
    obtain ⟨j, rfl⟩ : ∃ j, m = j + 1 := ⟨m - 1, by omega⟩
    exact bdd_mk h1 fun d hd => bdd_mono (h2 d hd) (by omega)
  | _, _, .int _, _, _ => bdd_flat (by intro ds e; cases e)
  | _, _, .str _, _, _ => bdd_flat (by intro ds e; cases e)
  | _, _, .bl _, _, _ => bdd_flat (by intro ds e; cases e)
  | _, _, .non, _, _ => bdd_flat (by intro ds e; cases e)
  | _, _, .oth, _, _ => bdd_flat (by intro ds e; cases e)
theorem cnt_mem {n : Nat} {ds : List D} {d : D} (h : d ∈ ds) : cnt n d ≤ (ds.map (cnt n)).sum := by
  induction ds with
  | nil => cases h
  | cons e r ih =>
    (rw [List.map_cons, List.sum_cons])
    (rcases List.mem_cons.mp h with rfl | h)
    · omega
    · have := ih h
      omega
theorem bdd_tok {g : D → Bool} : ∀ (n : Nat) (d : D), tok g n d = true → cnt n d ≤ 1000 → bdd n d = true
  | 0, _, h, _ => by cases h
  | n + 1, .tup ds, h, hc => by
    have h2 : (g (.tup ds) && ds.all (tok g n)) = true := h
    rw [Bool.and_eq_true, List.all_eq_true] at h2
    have hc2 : 1 + (ds.map (cnt n)).sum ≤ 1000 := hc
    have := cnt_ge n ds
    exact bdd_mk (by omega) fun d hd => bdd_tok n d (h2.2 d hd) (by have := cnt_mem (n := n) hd; omega)
  | _ + 1, .int _, _, _ => rfl
  | _ + 1, .str _, _, _ => rfl
  | _ + 1, .bl _, _, _ => rfl
  | _ + 1, .non, _, _ => rfl
  | _ + 1, .oth, _, _ => rfl
theorem bdd_gn {n : Nat} {s : String} {ds : List D} (h : ds.length ≤ 900) (k : ∀ d ∈ ds, bdd n d = true) : bdd (n + 1) (gnD s ds) = true := by
  refine bdd_mk (by rw [List.length_cons]; omega) fun d hd => ?_
  (rcases List.mem_cons.mp hd with rfl | hd)
  · exact bdd_flat (by intro ds e; cases e)
  · exact k d hd
theorem bdd_own {n : Nat} {d : D} (h : own d = true) (hn : 6 ≤ n) : bdd n d = true := by
  obtain ⟨h1, h2⟩ := own_iff.mp h
  exact bdd_mono (bdd_tok 6 d h1 (by omega)) hn
theorem bi {n : Nat} {i : Int} : bdd n (.int i) = true := bdd_flat (by intro ds e; cases e)
theorem bs {n : Nat} {x : List Nat} : bdd n (.str x) = true := bdd_flat (by intro ds e; cases e)
theorem bdd_fok : ∀ (n : Nat) (d : D), fok n d = true → bdd (3 * n + 8) d = true
  | 0, d, h => by cases h
  | n + 1, d, h => by
    have hd := fok_hf h
    have kd := fok_kids h
    rw [← scG_fst (ns := []) (gr := false) hd] at kd
    have kb : ∀ k ∈ (scG (d, [], false)).map (·.1), bdd (3 * n + 8) k = true := fun k hk => bdd_fok n k (kd k hk)
    clear kd h
    rw [show 3 * (n + 1) + 8 = (3 * n + 10) + 1 by omega]
    have hv := hf_inv hd
    clear hd
    cases hv with
    | just t h1 =>
      refine bdd_gn (Nat.le_of_ble_eq_true rfl) fun a ha => ?_
      rw [List.mem_singleton] at ha
      subst ha
      exact bdd_own h1 (by omega)
    | some ts h1 h2 h3 =>
      refine bdd_gn (Nat.le_of_ble_eq_true rfl) fun a ha => ?_
      rw [List.mem_singleton] at ha
      subst ha
      exact bdd_mk (n := 3 * n + 9) (by omega) fun t ht => bdd_own (h3 t ht) (by omega)
    | «from» i j h1 =>
      refine bdd_gn (Nat.le_of_ble_eq_true rfl) fun a ha => ?_
      simp only [List.mem_cons, List.not_mem_nil, or_false] at ha
      rcases ha with rfl | rfl <;> exact bi
    | mix ps h1 h2 h3 =>
      refine bdd_gn (Nat.le_of_ble_eq_true rfl) fun a ha => ?_
      rw [List.mem_singleton] at ha
      subst ha
      rw [kids_mix] at kb
      refine bdd_mk (n := 3 * n + 9) (by rw [List.length_map]; omega) fun t ht => ?_
      obtain ⟨p, hp, rfl⟩ := List.mem_map.mp ht
      refine bdd_mk (n := 3 * n + 8) (Nat.le_of_ble_eq_true rfl) fun u hu => ?_
      simp only [List.mem_cons, List.not_mem_nil, or_false] at hu
      rcases hu with rfl | rfl
      · exact bi
      · exact kb _ (List.mem_map.mpr ⟨(p.2, [], false), List.mem_map.mpr ⟨p.2, List.mem_map.mpr ⟨p, hp, rfl⟩, rfl⟩, rfl⟩)
    | all ds h1 =>
      refine bdd_gn (Nat.le_of_ble_eq_true rfl) fun a ha => ?_
      rw [List.mem_singleton] at ha
      subst ha
      rw [sc_all] at kb
      exact bdd_mk (n := 3 * n + 9) (by omega) fun t ht => bdd_mono (kb t (List.mem_map.mpr ⟨(t, [], false), List.mem_map.mpr ⟨t, ht, rfl⟩, rfl⟩)) (by omega)
    | row i j d h1 h2 h3 =>
      rw [sc_row] at kb
      refine bdd_gn (Nat.le_of_ble_eq_true rfl) fun a ha => ?_
      simp only [List.mem_cons, List.not_mem_nil, or_false] at ha
      (rcases ha with rfl | rfl | rfl)
      · exact bi
      · exact bi
      · exact bdd_mono (kb _ (.head _)) (by omega)
    | turn w d h1 =>
      rw [sc_turn] at kb
      refine bdd_gn (Nat.le_of_ble_eq_true rfl) fun a ha => ?_
      simp only [List.mem_cons, List.not_mem_nil, or_false] at ha
      rcases ha with rfl | rfl
      · exact bs
      · exact bdd_mono (kb _ (.head _)) (by omega)
    | keep w i d h1 h2 h3 =>
      rw [sc_keep] at kb
      refine bdd_gn (Nat.le_of_ble_eq_true rfl) fun a ha => ?_
      simp only [List.mem_cons, List.not_mem_nil, or_false] at ha
      (rcases ha with rfl | rfl | rfl)
      · exact bs
      · exact bi
      · exact bdd_mono (kb _ (.head _)) (by omega)
    | «let» x c d h1 =>
      rw [sc_let] at kb
      refine bdd_gn (Nat.le_of_ble_eq_true rfl) fun a ha => ?_
      simp only [List.mem_cons, List.not_mem_nil, or_false] at ha
      (rcases ha with rfl | rfl | rfl)
      · exact bs
      · exact bdd_mono (kb _ (.head _)) (by omega)
      · exact bdd_mono (kb _ (.tail _ (.head _))) (by omega)
    | var x h1 =>
      refine bdd_gn (Nat.le_of_ble_eq_true rfl) fun a ha => ?_
      rw [List.mem_singleton] at ha
      subst ha
      exact bs
    | upto x h1 =>
      refine bdd_gn (Nat.le_of_ble_eq_true rfl) fun a ha => ?_
      rw [List.mem_singleton] at ha
      subst ha
      exact bs
    | times x d h1 =>
      rw [sc_times] at kb
      refine bdd_gn (Nat.le_of_ble_eq_true rfl) fun a ha => ?_
      simp only [List.mem_cons, List.not_mem_nil, or_false] at ha
      rcases ha with rfl | rfl
      · exact bs
      · exact bdd_mono (kb _ (.head _)) (by omega)
    | grow i c d h1 h2 =>
      rw [sc_grow] at kb
      refine bdd_gn (Nat.le_of_ble_eq_true rfl) fun a ha => ?_
      simp only [List.mem_cons, List.not_mem_nil, or_false] at ha
      (rcases ha with rfl | rfl | rfl)
      · exact bi
      · exact bdd_mono (kb _ (.head _)) (by omega)
      · exact bdd_mono (kb _ (.tail _ (.head _))) (by omega)
    | again => exact bdd_gn (Nat.le_of_ble_eq_true rfl) fun a ha => by cases ha
end K6
set_option maxHeartbeats 4000001
namespace K6
open L2 PySem PySem.Spec PyProof.Rows
theorem whole {xs : List V} {lo hi : Option Int} (w : HT.sIx xs.length 0 lo = 0 ∧ HT.sIx xs.length xs.length hi = xs.length) : cutV xs lo hi = xs := by
  unfold cutV
  rw [w.1, w.2]
  simp
theorem slA_of {K : PySem.W.Frag} {H : Hp} {a : Addr} {xs : List V} {lo hi : Option Int} {Q : VK} (e : H a = some (.tup xs)) (q : ∀ r H', Same H H' → H' r = some (.tup (cutV xs lo hi)) → Q (.ref r) H') : rSlA K (.ref a) lo hi H Q :=
  ⟨a, xs, rfl, sqt e, fun w => q a H (Same.refl H) (by rw [whole w]; exact e), fun _ p hp => q p _ ((Same.refl H).new hp) upd_same⟩
theorem catA_of {K : PySem.W.Frag} {H : Hp} {a b : Addr} {xs ys : List V} {Q : VK} (ea : H a = some (.tup xs)) (eb : H b = some (.tup ys)) (hz : xs.length + ys.length ≤ 1000000) (q : ∀ r H', Same H H' → H' r = some (.tup (xs ++ ys)) → Q (.ref r) H') : rCatA K (.ref a) (.ref b) H Q :=
  ⟨a, b, xs, ys, rfl, rfl, sqt ea, sqt eb, sizes' hz, fun e => q b H (Same.refl H) (by rw [e]; exact eb), fun _ e => q a H (Same.refl H) (by rw [e, List.append_nil]; exact ea), fun _ _ p hp => q p _ ((Same.refl H).new hp) upd_same⟩
theorem cut_mem {xs : List V} {lo hi : Option Int} {y : V} (h : y ∈ cutV xs lo hi) : y ∈ xs := List.mem_of_mem_drop (List.mem_of_mem_take h)
theorem cut_len {xs : List V} {lo hi : Option Int} : (cutV xs lo hi).length ≤ xs.length := by
  unfold cutV
  (rw [List.length_take, List.length_drop])
  omega
def AnyR (H : Hp) (y : V) : Prop := ∃ d, Rep H y d
theorem AnyR.gr {H H' : Hp} {y : V} (a : AnyR H y) (g : Gr H H') : AnyR H' y := let ⟨d, r⟩ := a; ⟨d, r.gr g⟩
theorem any_reps {H : Hp} : ∀ {xs : List V}, (∀ y ∈ xs, AnyR H y) → ∃ ds, Reps H xs ds
  | [], _ => ⟨[], Reps.nil⟩
  | x :: r, h => by
    obtain ⟨d, hd⟩ := h x (.head _)
    obtain ⟨ds, hr⟩ := any_reps (xs := r) fun y hy => h y (.tail _ hy)
    exact ⟨d :: ds, Reps.cons hd hr⟩
theorem any_tup {H : Hp} {t : Addr} {xs : List V} (e : H t = some (.tup xs)) (h : ∀ y ∈ xs, AnyR H y) : AnyR H (.ref t) := by
  obtain ⟨ds, r⟩ := any_reps h
  exact ⟨.tup ds, reps_tup e r⟩
theorem any_of {H : Hp} {xs : List V} {ds : List D} (r : Reps H xs ds) : ∀ y ∈ xs, AnyR H y := fun y hy => by
  obtain ⟨i, hi⟩ := List.getElem?_of_mem hy
  obtain ⟨d, _, h⟩ := r.getV hi
  exact ⟨d, h⟩
inductive OkL (G : List V) : List V → Prop
  | nil : OkL G []
  | int {i : Int} {xs : List V} : OkL G xs → OkL G (.int i :: xs)
  | bl {b : Bool} {xs : List V} : OkL G xs → OkL G (.bl b :: xs)
  | non {xs : List V} : OkL G xs → OkL G (.non :: xs)
  | str {s : String} {xs : List V} (h : Nat.ble (W s).length 1000000 = true) : OkL G xs → OkL G (.str (Str.ofString s) :: xs)
  | mem {x : V} {xs : List V} (h : x ∈ G) : OkL G xs → OkL G (x :: xs)
theorem OkL.any {G xs : List V} {H : Hp} (o : OkL G xs) (h : ∀ y ∈ G, AnyR H y) : ∀ y ∈ xs, AnyR H y := by
  induction o with
  | nil => intro y hy; cases hy
  | int _ ih => intro y hy; rcases List.mem_cons.mp hy with rfl | hy; exact ⟨_, .int _⟩; exact ih y hy
  | bl _ ih => intro y hy; rcases List.mem_cons.mp hy with rfl | hy; exact ⟨_, .bl _⟩; exact ih y hy
  | non _ ih => intro y hy; rcases List.mem_cons.mp hy with rfl | hy; exact ⟨_, .non⟩; exact ih y hy
  | str hs _ ih =>
    intro y hy
    (rcases List.mem_cons.mp hy with rfl | hy)
    · exact ⟨_, rep_S (Nat.le_of_ble_eq_true hs)⟩
    · exact ih y hy
  | mem hx _ ih => intro y hy; rcases List.mem_cons.mp hy with rfl | hy; exact h _ hx; exact ih y hy
structure Gd (z : Sl) (c : Nat) (H0 : Hp) (k0 : Nat) (Hb H : Hp) (k : Nat) (G : List V) : Prop where
  dw : Dw z c H0 k0 H k
  sm : Same Hb H
  an : ∀ y ∈ G, AnyR H y
section
variable {z : Sl} {c : Nat} {H0 Hb H : Hp} {k0 k : Nat} {G : List V}
theorem Gd.new (g : Gd z c H0 k0 Hb H k G) {t : Addr} {o : HO} (ht : H t = none) (h : AnyR (upd H t o) (.ref t)) : Gd z c H0 k0 Hb (upd H t o) k (.ref t :: G) :=
  ⟨g.dw.new ht, g.sm.new ht, fun y hy => by
    (rcases List.mem_cons.mp hy with rfl | hy)
    · exact h
    · exact (g.an y hy).gr (.of ((Same.refl H).new ht))⟩
theorem Gd.tup (g : Gd z c H0 k0 Hb H k G) {t : Addr} (ht : H t = none) (xs : List V) (h : OkL G xs) : Gd z c H0 k0 Hb (upd H t (.tup xs)) k (.ref t :: G) :=
  g.new ht (any_tup upd_same fun y hy => ((h.any g.an) y hy).gr (.of ((Same.refl H).new ht)))
theorem Gd.lst (g : Gd z c H0 k0 Hb H k G) {t : Addr} (ht : H t = none) (xs : List V) : Gd z c H0 k0 Hb (upd H t (.lst xs)) k (.ref t :: G) := g.new ht ⟨.oth, .lst upd_same⟩
theorem Gd.dic (g : Gd z c H0 k0 Hb H k G) {t : Addr} (ht : H t = none) : Gd z c H0 k0 Hb (upd H t (.dK [])) k (.ref t :: G) := g.new ht ⟨.oth, .dic upd_same⟩
structure Od (z : Sl) (c : Nat) (H0 : Hp) (k0 : Nat) (H : Hp) (k : Nat) (v : V) (o : Addr) (os : List V) (n : Nat) : Prop where
  dw : Dw z c H0 k0 H k
  rv : AnyR H v
  e : H o = some (.lst os)
  a : ∀ y ∈ os, AnyR H y
  l : os.length = n
  n1 : o ≠ z.l
theorem Od.gd {v : V} {o : Addr} {os : List V} {n : Nat} (x : Od z c H0 k0 H k v o os n) : Gd z c H0 k0 H H k [v] := ⟨x.dw, Same.refl H, fun y hy => by
  rw [List.mem_singleton] at hy
  rw [hy]
  exact x.rv⟩
theorem Od.one {v : V} (g : Gd z c H0 k0 Hb H k G) {o : Addr} (ho : H o = none) (hv : v ∈ G) (os : List V) (h : OkL G os) : Od z c H0 k0 (upd H o (.lst os)) k v o os os.length :=
  ⟨g.dw.new ho, (g.an v hv).gr (.of ((Same.refl H).new ho)), upd_same, fun y hy => ((h.any g.an) y hy).gr (.of ((Same.refl H).new ho)), rfl, (g.dw.st.fresh ho).2.1⟩
theorem Od.cat {v : V} {o : Addr} {os : List V} {n : Nat} (x : Od z c H0 k0 Hb k v o os n) (g : Gd z c H0 k0 Hb H k G) {M p : Addr} (hM : H M = none) (ms : List V) (h : OkL G ms) (hp : upd H M (.lst ms) p = none) :
    Od z c H0 k0 (upd (upd H M (.lst ms)) p (.lst (os ++ ms))) k v p (os ++ ms) (n + ms.length) := by
  have s1 : Same H (upd (upd H M (.lst ms)) p (.lst (os ++ ms))) := ((Same.refl H).new hM).new hp
  refine ⟨(g.dw.new hM).new hp, (x.rv.gr (.of g.sm)).gr (.of s1), upd_same, fun y hy => ?_, by rw [List.length_append, x.l], ((g.dw.new hM (o := .lst ms)).st.fresh hp).2.1⟩
  (rcases List.mem_append.mp hy with hy | hy)
  · exact ((x.a y hy).gr (.of g.sm)).gr (.of s1)
  · exact ((h.any g.an) y hy).gr (.of s1)
end
def sp_bent (N : Nat) : Sp := fun vs H Q _ => ∃ (z : Sl) (k n : Nat) (v : V) (d : D), vs = [.ref z.s, v] ∧ n ≤ N ∧ bdd n d = true ∧ Rep H v d ∧ St z H k ∧ k + (4 * n + 4) ≤ KM ∧ ∀ H' k' v' d', Dw z (4 * n + 4) H k H' k' → Rep H' v' d' → Q v' H'
section
variable {P : Program}
variable {w : World} {K : PySem.W.Frag} {mg : Str → Option Value} {base : Heap}
abbrev s__law_bent : Stmt := top 113
abbrev N__law_bent : List Str := ["_law_state", "_law_thing_here", "_law_at", "_law_way", "_law_odd"]
theorem sc__law_bent : FnScope N__law_bent ["_law_state", "_law_thing_here"] (defScope s__law_bent) := ⟨rfl, rfl, rfl, by decide +kernel, rfl, by decide +kernel, by decide +kernel⟩
theorem cl__law_bent1 (F : Df K mg "_law_bent" s__law_bent ["_law_state", "_law_thing_here"]) (T : Tx mg) (c__law_draw : Cl P w K mg base 2 "_law_draw" sp_draw) (c__law_one : Cl P w K mg base 3 "_law_one" sp_one)
    (N : Nat) (c__law_bent : Cl P w K mg base (N + 3) "_law_bent" (fun vs H Q E => ∃ M, N = M + 1 ∧ sp_bent M vs H Q E)) : Cl P w K mg base (N + 4) "_law_bent" (sp_bent N) := by
  refine F.cl sc__law_bent (fun vs H Q E h => by obtain ⟨_, _, _, _, _, rfl, _⟩ := h; rfl) (fun f cdv A outer s H vs Q E hr h => ?_)
  have nd := sc__law_bent.nd
  obtain ⟨z, k, n, v, d, rfl, hN, hb, rd, st, hk, q⟩ := h
  refine ⟨_, (C8.pss_cut (ps_if (PW.pt (pw_and (pt_val (pe_callB (call_isDK K) rfl T.n_isinstance bb_isinstance (pa_cons (pv 1) (pa_cons (pty (n := "tuple") rfl T.n_tuple bt_tuple) pa_nil)))) (pw_and (pt_cmpR op_gt (pe_callB (call_lenK K) rfl T.n_len PySem.boot_len (pa_cons (pv 1) pa_nil)) pe_int (nomark _)) (pw_and1 (pt_cmpR op_gt (pf c__law_draw hr (by omega) rfl (pa_cons (pv 0) (pa_cons pe_int pa_nil))) pe_int (nomark _)))))) (pss_cons (pset 2 nd (pf c__law_draw hr (by omega) rfl (pa_cons (pv 0) (pa_cons (pe_callB (call_lenK K) rfl T.n_len PySem.boot_len (pa_cons (pv 1) pa_nil)) pa_nil))))
      (pss_cons (pset 3 nd (pf c__law_draw hr (by omega) rfl (pa_cons (pv 0) (pa_cons pe_int pa_nil))))
      (pss_cons (ps_if (pt_cmpR op_eq (pv 3) pe_int (nomark _)) (pss_one (ps_ret (pe_op op_catA (pe_slice (sl_tupAK K) (pv 1) po_none (po_some (pv 2))) (pe_slice (sl_tupAK K) (pv 1) (po_some (pe_op op_add (pv 2) pe_int)) po_none)))) pss_nil)
      (pss_cons (ps_if (pt_cmpR op_eq (pv 3) pe_int (nomark _)) (pss_one (ps_ret (pe_op op_catA (pe_op op_catA (pe_slice (sl_tupAK K) (pv 1) po_none (po_some (pv 2))) (pe_tup (pa_cons (pe_ix (ix_tupK K) (pv 1) (pv 2) (fun _ _ => rfl)) pa_nil))) (pe_slice (sl_tupAK K) (pv 1) (po_some (pv 2)) po_none)))) pss_nil)
      (pss_one (ps_ret (pe_op op_catA (pe_op op_catA (pe_slice (sl_tupAK K) (pv 1) po_none (po_some (pv 2))) (pe_tup (pa_cons (pf c__law_bent hr (by omega) rfl (pa_cons (pv 0) (pa_cons (pe_ix (ix_tupK K) (pv 1) (pv 2) (fun _ _ => rfl)) pa_nil))) pa_nil))) (pe_slice (sl_tupAK K) (pv 1) (po_some (pe_op op_add (pv 2) pe_int)) po_none)))))))) pss_nil)
    (C8.pss_cut (ps_if (PW.pt (pw_and (pt_val (pe_callB (call_isDK K) rfl T.n_isinstance bb_isinstance (pa_cons (pv 1) (pa_cons (pty (n := "int") rfl T.n_int bt_int) pa_nil)))) (pw_and (pt_not (pt_val (pe_callB (call_isDK K) rfl T.n_isinstance bb_isinstance (pa_cons (pv 1) (pa_cons (pty (n := "bool") rfl T.n_bool bt_bool) pa_nil))))) (pw_and1 (pt_cmpR op_eq (pf c__law_draw hr (by omega) rfl (pa_cons (pv 0) (pa_cons pe_int pa_nil))) pe_int (nomark _)))))) (pss_one (ps_ret (pe_op op_add (pv 1) (pf c__law_one hr (by omega) rfl (pa_cons (pv 0) (pa_cons (pe_lst (pa_cons pe_int (pa_cons (pe_un un_neg pe_int) (pa_cons pe_int (pa_cons pe_int pa_nil))))) pa_nil)))))) pss_nil)
    (pss_cons (pset 4 nd (pe_lst (pa_cons pe_non (pa_cons pe_bl (pa_cons pe_int (pa_cons pe_int (pa_cons pe_int (pa_cons pe_int (pa_cons pe_int (pa_cons pe_int (pa_cons pe_int (pa_cons (pe_un un_neg pe_int) (pa_cons (pe_op op_pow pe_int pe_int) (pa_cons pe_str (pa_cons pe_str (pa_cons pe_str (pa_cons pe_str (pa_cons pe_str (pa_cons pe_str (pa_cons (pe_tup pa_nil) (pa_cons (pe_lst pa_nil) (pa_cons pe_dnewK (pa_cons pe_str pa_nil)))))))))))))))))))))))
    (pss_cons (pset 4 nd (pe_op op_cat (pv 4) (pe_lst (pa_cons (pe_tup (pa_cons pe_str pa_nil)) (pa_cons (pe_tup (pa_cons pe_str (pa_cons pe_str pa_nil))) (pa_cons (pe_tup (pa_cons pe_str (pa_cons pe_str pa_nil))) (pa_cons (pe_tup (pa_cons pe_str (pa_cons (pe_tup pa_nil) pa_nil))) (pa_cons (pe_tup (pa_cons pe_str (pa_cons (pe_op op_pow pe_int pe_int) pa_nil))) (pa_cons (pe_tup (pa_cons pe_str (pa_cons pe_int (pa_cons pe_int pa_nil)))) pa_nil)))))))))
    (pss_cons (pset 4 nd (pe_op op_cat (pv 4) (pe_lst (pa_cons (pe_tup (pa_cons pe_str (pa_cons pe_str (pa_cons (pe_tup (pa_cons pe_str (pa_cons pe_int pa_nil))) pa_nil)))) (pa_cons (pe_tup (pa_cons pe_str (pa_cons (pe_tup pa_nil) pa_nil))) (pa_cons (pe_tup (pa_cons pe_str (pa_cons (pe_tup pa_nil) pa_nil))) (pa_cons (pe_tup (pa_cons pe_str (pa_cons (pe_tup (pa_cons (pe_tup (pa_cons pe_int (pa_cons (pe_tup (pa_cons pe_str (pa_cons pe_int pa_nil))) pa_nil))) pa_nil)) pa_nil))) (pa_cons (pe_tup (pa_cons (pv 1) pa_nil)) pa_nil))))))))
    (pss_cons (pset 4 nd (pe_op op_cat (pv 4) (pe_lst (pa_cons (pe_tup (pa_cons pe_str (pa_cons (pe_tup pa_nil) pa_nil))) (pa_cons (pe_lst (pa_cons (pv 1) pa_nil)) pa_nil)))))
    (pss_one (ps_ret (pf c__law_one hr (by omega) rfl (pa_cons (pv 0) (pa_cons (pe_op op_cat (pv 4) (pe_lst (pa_cons (pe_tup (pa_cons pe_str (pa_cons pe_str (pa_cons (pe_tup (pa_cons pe_str (pa_cons pe_int pa_nil))) (pa_cons (pe_tup (pa_cons pe_str (pa_cons pe_str pa_nil))) pa_nil))))) (pa_cons (pe_tup (pa_cons pe_str (pa_cons pe_int (pa_cons (pe_tup (pa_cons pe_str pa_nil)) (pa_cons (pe_tup (pa_cons pe_str (pa_cons pe_int pa_nil))) pa_nil))))) pa_nil)))) pa_nil))))))))))), ?_⟩
  have qA : ∀ (H' : Hp) (k' : Nat) (y : V), Dw z (4 * n + 4) H k H' k' → AnyR H' y → Q y H' := fun H' k' y dw ⟨d', r⟩ => q H' k' y d' dw r
  refine ⟨fun σ' H' => σ' = [some (.ref z.s), some v, none, none, none] ∧ ∃ k', Dw z 1 H k H' k', ?_, ?_⟩
  · refine ⟨v, rfl, v, d, "tuple", rfl, by decide, rd, _, rfl, ?_⟩
    cases d with
    | tup ds =>
      obtain ⟨m, rfl, hl, hk2⟩ := bdd_tup hb
      obtain ⟨a, xs, rfl, ea, rs⟩ := rd.tup_inv
      have lx : xs.length ≤ 1000 := by rw [rs.1]; exact hl
      refine iteT ⟨_, rfl, .ref a, xs.length, rfl, .inr ⟨xs, sqt ea, rfl⟩, _, _, rfl, rfl, _, rfl, ?_⟩
      by_cases h0 : (0 : Int) < (xs.length : Int)
      · rw [decide_eq_true h0]
        refine iteT ⟨_, rfl, z, k, _, rfl, st, by omega, by decide, by decide, fun H1 i d1 h1 h2 => ⟨_, _, rfl, rfl, _, rfl, ?_⟩⟩
        by_cases hi : 0 < i
        · rw [decide_eq_true hi]
          refine iteT ⟨_, rfl, _, rfl, .ref a, xs.length, rfl, .inr ⟨xs, sqt ((d1.gr st).1 _ _ ea), rfl⟩, z, k + 1, _, rfl, d1.st, by omega, by omega, by omega, fun H2 at' d2 h3 h4 => ?_⟩
          refine ⟨_, rfl, z, k + 1 + 1, _, rfl, d2.st, by omega, by decide, by decide, fun H3 way d3 h5 h6 => ?_⟩
          have d13 := d1.trans (d2.trans d3)
          have g3 := d13.gr st
          have ea3 := g3.1 _ _ ea
          have rs3 := rs.gr g3
          have ra3 := any_of rs3
          obtain ⟨j, rfl⟩ : ∃ j : Nat, at' = (j : Int) := ⟨at'.toNat, by omega⟩
          have hj : j < xs.length := by omega
          obtain ⟨dj, hdj, rj⟩ := rs3.getV (List.getElem?_eq_getElem hj)
          have fin : ∀ (H' : Hp) (r : Addr) (ys : List V), Same H3 H' → H' r = some (.tup ys) → (∀ y ∈ ys, AnyR H' y) → Q (.ref r) H' := fun H' r ys s' e h => qA H' _ _ ((d13.same s').up (by omega)) (any_tup e h)
          (refine ⟨_, rfl, rfl, _, rfl, ?_⟩)
          by_cases w0 : way = 0
          · rw [decide_eq_true (show V.int way = V.int 0 by rw [w0])]
            refine iteT ⟨_, rfl, _, rfl, _, rfl, slA_of ea3 fun r4 H4 s4 e4 => ⟨_, rfl, _, rfl, _, _, rfl, rfl, _, rfl, ?_⟩⟩
            dsimp only [tNoPart]
            refine slA_of (s4 _ _ ea3) fun r5 H5 s5 e5 => catA_of (s5 _ _ e4) e5 (by have := cut_len (xs := xs) (lo := none) (hi := some (j : Int)); have := cut_len (xs := xs) (lo := some ((j : Int) + 1)) (hi := none); omega) fun r6 H6 s6 e6 => ?_
            refine fin H6 r6 _ ((s4.trans s5).trans s6) e6 fun y hy => ?_
            rcases List.mem_append.mp hy with hy | hy <;> exact (ra3 y (cut_mem hy)).gr (.of ((s4.trans s5).trans s6))
          rw [decide_eq_false (show ¬ V.int way = V.int 0 from fun e => w0 (V.int.inj e))]
          refine iteF ⟨_, rfl, rfl, _, rfl, ?_⟩
          by_cases w1 : way = 1
          · rw [decide_eq_true (show V.int way = V.int 1 by rw [w1])]
            refine iteT ⟨_, rfl, _, rfl, _, rfl, slA_of ea3 fun r4 H4 s4 e4 => ⟨_, rfl, _, rfl, a, xs, _, _, rfl, rfl, sqt (s4 _ _ ea3), atI_nat (List.getElem?_eq_getElem hj), lsz, fun t ht => ?_⟩⟩
            refine catA_of (up_ne e4 ht) upd_same (by have := cut_len (xs := xs) (lo := none) (hi := some (j : Int)); show _ + 1 ≤ _; omega) fun r5 H5 s5 e5 => ?_
            have st4 : Same H4 H5 := ((Same.refl H4).new ht).trans s5
            refine ⟨_, rfl, _, rfl, _, rfl, ?_⟩
            dsimp only [tNoPart]
            refine slA_of (st4 _ _ (s4 _ _ ea3)) fun r6 H6 s6 e6 => catA_of (s6 _ _ e5) e6 (by have := cut_len (xs := xs) (lo := none) (hi := some (j : Int)); have := cut_len (xs := xs) (lo := some (j : Int)) (hi := none); rw [List.length_append]; show _ + 1 + _ ≤ _; omega) fun r7 H7 s7 e7 => ?_
            have s37 := (s4.trans st4).trans (s6.trans s7)
            refine fin H7 r7 _ s37 e7 fun y hy => ?_
            (rcases List.mem_append.mp hy with hy | hy)
            · rcases List.mem_append.mp hy with hy | hy
              · exact (ra3 y (cut_mem hy)).gr (.of s37)
              · rw [List.mem_singleton] at hy
                rw [hy]
                exact (ra3 _ (List.getElem_mem hj)).gr (.of s37)
            · exact (ra3 y (cut_mem hy)).gr (.of s37)
          rw [decide_eq_false (show ¬ V.int way = V.int 1 from fun e => w1 (V.int.inj e))]
          refine iteF ⟨_, rfl, _, rfl, _, rfl, slA_of ea3 fun r4 H4 s4 e4 => ⟨_, rfl, _, rfl, _, rfl, a, xs, _, _, rfl, rfl, sqt (s4 _ _ ea3), atI_nat (List.getElem?_eq_getElem hj), N - 1, by omega, z, k + 3, m, xs[j], dj, rfl, by omega, hk2 _ (List.mem_of_getElem? hdj), rj.same s4, d13.st.same s4, by omega, fun H5 k5 y dy d5 ry => ⟨lsz, fun t ht => ?_⟩⟩⟩
          have d35 : Dw z (4 * m + 4) H3 (k + 3) H5 k5 := Dw.pre s4 d5
          have g45 := d5.gr (d13.st.same s4)
          have g5 : Gr H5 (upd H5 t (.tup [y])) := .of ((Same.refl H5).new ht)
          refine catA_of (up_ne (g45.1 _ _ e4) ht) upd_same (by have := cut_len (xs := xs) (lo := none) (hi := some (j : Int)); show _ + 1 ≤ _; omega) fun r6 H6 s6 e6 => ?_
          have g36 : Gr H3 H6 := (d35.gr d13.st).trans (g5.trans (.of s6))
          (refine ⟨_, rfl, _, rfl, _, _, rfl, rfl, _, rfl, ?_⟩)
          dsimp only [tNoPart]
          refine slA_of (g36.1 _ _ ea3) fun r7 H7 s7 e7 => catA_of (s7 _ _ e6) e7 (by have := cut_len (xs := xs) (lo := none) (hi := some (j : Int)); have := cut_len (xs := xs) (lo := some ((j : Int) + 1)) (hi := none); rw [List.length_append]; show _ + 1 + _ ≤ _; omega) fun r8 H8 s8 e8 => ?_
          have g38 := g36.trans ((Gr.of s7).trans (.of s8))
          refine qA H8 _ _ ((((((d13.trans d35).new ht).same s6).same s7).same s8).up (by omega)) (any_tup e8 fun u hu => ?_)
          (rcases List.mem_append.mp hu with hu | hu)
          · rcases List.mem_append.mp hu with hu | hu
            · exact (ra3 u (cut_mem hu)).gr g38
            · rw [List.mem_singleton] at hu
              rw [hu]
              exact (AnyR.gr ⟨dy, ry⟩ g5).gr ((Gr.of s6).trans ((Gr.of s7).trans (.of s8)))
          · exact (ra3 u (cut_mem hu)).gr g38
        · rw [decide_eq_false hi]
          exact iteF ⟨rfl, _, d1⟩
      · rw [decide_eq_false h0]
        exact iteF ⟨rfl, k, (Dw.refl st).up (by omega)⟩
    | _ => exact iteF ⟨rfl, k, (Dw.refl st).up (by omega)⟩
  rintro σ' H1 ⟨rfl, k1, d1⟩
  have k1le := d1.le
  have rd1 := rd.gr (d1.gr st)
  refine ⟨fun σ' H' => σ' = [some (.ref z.s), some v, none, none, none] ∧ ∃ k', Dw z 2 H k H' k', ?_, ?_⟩
  · refine ⟨v, rfl, v, d, "int", rfl, by decide, rd1, _, rfl, ?_⟩
    cases d with
    | int i =>
      cases rd1
      refine iteT ⟨_, rfl, _, .int i, "bool", rfl, by decide, .int i, _, rfl, iteT ⟨_, rfl, z, k1, _, rfl, d1.st, by omega, by decide, by decide, fun H2 j d2 h1 h2 => ⟨rfl, _, rfl, ?_⟩⟩⟩
      have d12 := d1.trans d2
      by_cases hj : j = 0
      · rw [decide_eq_true (show V.int j = V.int 0 by rw [hj])]
        refine iteT ⟨_, rfl, _, rfl, _, rfl, lsz, fun t ht => ⟨z, _, t, _, rfl, d12.st.new ht, by omega, upd_same, (d12.st.fresh ht).2.1, nle, nle, fun H3 y d3 hy => ?_⟩⟩
        obtain ⟨y', rfl⟩ : ∃ i, y = V.int i := by
          simp only [List.mem_cons, List.not_mem_nil, or_false] at hy
          rcases hy with rfl | rfl | rfl | rfl <;> exact ⟨_, rfl⟩
        exact ⟨_, _, rfl, rfl, q _ _ _ _ (((d12.new ht).trans d3).up (by omega)) (.int _)⟩
      · rw [decide_eq_false (show ¬ V.int j = V.int 0 from fun e => hj (V.int.inj e))]
        exact iteF ⟨rfl, _, d12⟩
    | bl b => exact iteT ⟨v, rfl, v, .bl b, "bool", rfl, by decide, rd1, _, rfl, iteF ⟨rfl, _, d1.up (by omega)⟩⟩
    | _ => exact iteF ⟨rfl, _, d1.up (by omega)⟩
  rintro σ' H2 ⟨rfl, k2, d2⟩
  clear rd1 d1 k1le
  have rd2 : AnyR H2 v := ⟨d, rd.gr (d2.gr st)⟩
  have k2le := d2.le
  refine ⟨_, rfl, _, _, rfl, rfl, ⟨by decide, by decide, by decide⟩, lsz, fun t1 ht1 => ⟨lsz, fun t2 ht2 =>  fun t3 ht3 => ⟨lsz, fun t4 ht4 => ?_⟩⟩⟩
  have g0_0 : Gd z 2 H k H2 H2 k2 [v] := ⟨d2, Same.refl H2, fun y hy => by rw [List.mem_singleton] at hy; rw [hy]; exact rd2⟩
  have g0_1 := g0_0.tup ht1 [] (by repeat (first | exact OkL.nil | apply OkL.int | apply OkL.str (by decide +kernel) | apply OkL.bl | apply OkL.non | refine OkL.mem (by simp only [List.mem_cons, eq_self, true_or, or_true]) ?_))
  have g0_2 := g0_1.lst ht2 []
  have g0_3 := g0_2.dic ht3
  have x0 := Od.one (v := v) g0_3 ht4 (by simp only [List.mem_cons, eq_self, true_or, or_true]) [.non, .bl true, .int 0, .int 3, .int 4, .int 6, .int 7, .int 9, .int 10, .int (-1), .int ((10 : Int) ^ (30 : Int).toNat), .str "", .str "A", .str "x", .str "even", .str "neg", .str "all", .ref t1, .ref t2, .ref t3, .str "abcdefghi"] (by repeat (first | exact OkL.nil | apply OkL.int | apply OkL.str (by decide +kernel) | apply OkL.bl | apply OkL.non | refine OkL.mem (by simp only [List.mem_cons, eq_self, true_or, or_true]) ?_))
  generalize hos0 : ([.non, .bl true, .int 0, .int 3, .int 4, .int 6, .int 7, .int 9, .int 10, .int (-1), .int ((10 : Int) ^ (30 : Int).toNat), .str "", .str "A", .str "x", .str "even", .str "neg", .str "all", .ref t1, .ref t2, .ref t3, .str "abcdefghi"] : List V) = os0 at x0 ⊢
  have l0 : os0.length = 21 := by rw [← hos0]; rfl
  rw [l0] at x0
  obtain ⟨o0, eo0⟩ : ∃ o, o = t4 := ⟨_, rfl⟩
  rw [← eo0] at x0 ⊢
  clear hos0 l0
  generalize (upd (upd (upd (upd H2 t1 (.tup [])) t2 (.lst [])) t3 (.dK [])) o0 (.lst os0)) = H3 at x0 ⊢
  refine ⟨_, rfl, lsz, fun t5 ht5 => ⟨lsz, fun t6 ht6 => ⟨lsz, fun t7 ht7 => ⟨lsz, fun t8 ht8 => ⟨lsz, fun t9 ht9 => ⟨_, _, rfl, rfl, ⟨by decide, by decide, by decide⟩, lsz, fun t10 ht10 => ⟨lsz, fun t11 ht11 => ⟨lsz, fun t12 ht12 => ?_⟩⟩⟩⟩⟩⟩⟩⟩
  have g1_0 := x0.gd
  have g1_1 := g1_0.tup ht5 [.str "again"] (by repeat (first | exact OkL.nil | apply OkL.int | apply OkL.str (by decide +kernel) | apply OkL.bl | apply OkL.non | refine OkL.mem (by simp only [List.mem_cons, eq_self, true_or, or_true]) ?_))
  have g1_2 := g1_1.tup ht6 [.str "var", .str "x"] (by repeat (first | exact OkL.nil | apply OkL.int | apply OkL.str (by decide +kernel) | apply OkL.bl | apply OkL.non | refine OkL.mem (by simp only [List.mem_cons, eq_self, true_or, or_true]) ?_))
  have g1_3 := g1_2.tup ht7 [.str "upto", .str "y"] (by repeat (first | exact OkL.nil | apply OkL.int | apply OkL.str (by decide +kernel) | apply OkL.bl | apply OkL.non | refine OkL.mem (by simp only [List.mem_cons, eq_self, true_or, or_true]) ?_))
  have g1_4 := g1_3.tup ht8 [] (by repeat (first | exact OkL.nil | apply OkL.int | apply OkL.str (by decide +kernel) | apply OkL.bl | apply OkL.non | refine OkL.mem (by simp only [List.mem_cons, eq_self, true_or, or_true]) ?_))
  have g1_5 := g1_4.tup ht9 [.str "just", .ref t8] (by repeat (first | exact OkL.nil | apply OkL.int | apply OkL.str (by decide +kernel) | apply OkL.bl | apply OkL.non | refine OkL.mem (by simp only [List.mem_cons, eq_self, true_or, or_true]) ?_))
  have g1_6 := g1_5.tup ht10 [.str "just", .int ((10 : Int) ^ (30 : Int).toNat)] (by repeat (first | exact OkL.nil | apply OkL.int | apply OkL.str (by decide +kernel) | apply OkL.bl | apply OkL.non | refine OkL.mem (by simp only [List.mem_cons, eq_self, true_or, or_true]) ?_))
  have g1_7 := g1_6.tup ht11 [.str "from", .int 0, .int 100] (by repeat (first | exact OkL.nil | apply OkL.int | apply OkL.str (by decide +kernel) | apply OkL.bl | apply OkL.non | refine OkL.mem (by simp only [List.mem_cons, eq_self, true_or, or_true]) ?_))
  refine ⟨o0, t12, os0, _, rfl, rfl, up_ne (g1_7.sm _ _ x0.e) ht12, upd_same, sizes' (by rw [x0.l]; exact nle), fun o1 ho1 => ?_⟩
  have x1 := x0.cat g1_7 ht12 [.ref t5, .ref t6, .ref t7, .ref t9, .ref t10, .ref t11] (by repeat (first | exact OkL.nil | apply OkL.int | apply OkL.str (by decide +kernel) | apply OkL.bl | apply OkL.non | refine OkL.mem (by simp only [List.mem_cons, eq_self, true_or, or_true]) ?_)) ho1
  generalize hos1 : os0 ++ ([.ref t5, .ref t6, .ref t7, .ref t9, .ref t10, .ref t11] : List V) = os1 at x1 ⊢
  clear hos1
  generalize (upd (upd (upd (upd (upd (upd (upd (upd (upd H3 t5 (.tup [.str "again"])) t6 (.tup [.str "var", .str "x"])) t7 (.tup [.str "upto", .str "y"])) t8 (.tup [])) t9 (.tup [.str "just", .ref t8])) t10 (.tup [.str "just", .int ((10 : Int) ^ (30 : Int).toNat)])) t11 (.tup [.str "from", .int 0, .int 100])) t12 (.lst [.ref t5, .ref t6, .ref t7, .ref t9, .ref t10, .ref t11])) o1 (.lst os1)) = H4 at x1 ⊢
  refine ⟨_, rfl, lsz, fun t13 ht13 => ⟨lsz, fun t14 ht14 => ⟨lsz, fun t15 ht15 => ⟨lsz, fun t16 ht16 => ⟨lsz, fun t17 ht17 => ⟨lsz, fun t18 ht18 => ⟨lsz, fun t19 ht19 => ⟨lsz, fun t20 ht20 => ⟨lsz, fun t21 ht21 => ⟨lsz, fun t22 ht22 => ⟨_, rfl, lsz, fun t23 ht23 => ⟨lsz, fun t24 ht24 => ?_⟩⟩⟩⟩⟩⟩⟩⟩⟩⟩⟩⟩
  have g2_0 := x1.gd
  have g2_1 := g2_0.tup ht13 [.str "just", .int 1] (by repeat (first | exact OkL.nil | apply OkL.int | apply OkL.str (by decide +kernel) | apply OkL.bl | apply OkL.non | refine OkL.mem (by simp only [List.mem_cons, eq_self, true_or, or_true]) ?_))
  have g2_2 := g2_1.tup ht14 [.str "times", .str "x", .ref t13] (by repeat (first | exact OkL.nil | apply OkL.int | apply OkL.str (by decide +kernel) | apply OkL.bl | apply OkL.non | refine OkL.mem (by simp only [List.mem_cons, eq_self, true_or, or_true]) ?_))
  have g2_3 := g2_2.tup ht15 [] (by repeat (first | exact OkL.nil | apply OkL.int | apply OkL.str (by decide +kernel) | apply OkL.bl | apply OkL.non | refine OkL.mem (by simp only [List.mem_cons, eq_self, true_or, or_true]) ?_))
  have g2_4 := g2_3.tup ht16 [.str "mix", .ref t15] (by repeat (first | exact OkL.nil | apply OkL.int | apply OkL.str (by decide +kernel) | apply OkL.bl | apply OkL.non | refine OkL.mem (by simp only [List.mem_cons, eq_self, true_or, or_true]) ?_))
  have g2_5 := g2_4.tup ht17 [] (by repeat (first | exact OkL.nil | apply OkL.int | apply OkL.str (by decide +kernel) | apply OkL.bl | apply OkL.non | refine OkL.mem (by simp only [List.mem_cons, eq_self, true_or, or_true]) ?_))
  have g2_6 := g2_5.tup ht18 [.str "some", .ref t17] (by repeat (first | exact OkL.nil | apply OkL.int | apply OkL.str (by decide +kernel) | apply OkL.bl | apply OkL.non | refine OkL.mem (by simp only [List.mem_cons, eq_self, true_or, or_true]) ?_))
  have g2_7 := g2_6.tup ht19 [.str "just", .int 1] (by repeat (first | exact OkL.nil | apply OkL.int | apply OkL.str (by decide +kernel) | apply OkL.bl | apply OkL.non | refine OkL.mem (by simp only [List.mem_cons, eq_self, true_or, or_true]) ?_))
  have g2_8 := g2_7.tup ht20 [.int 0, .ref t19] (by repeat (first | exact OkL.nil | apply OkL.int | apply OkL.str (by decide +kernel) | apply OkL.bl | apply OkL.non | refine OkL.mem (by simp only [List.mem_cons, eq_self, true_or, or_true]) ?_))
  have g2_9 := g2_8.tup ht21 [.ref t20] (by repeat (first | exact OkL.nil | apply OkL.int | apply OkL.str (by decide +kernel) | apply OkL.bl | apply OkL.non | refine OkL.mem (by simp only [List.mem_cons, eq_self, true_or, or_true]) ?_))
  have g2_10 := g2_9.tup ht22 [.str "mix", .ref t21] (by repeat (first | exact OkL.nil | apply OkL.int | apply OkL.str (by decide +kernel) | apply OkL.bl | apply OkL.non | refine OkL.mem (by simp only [List.mem_cons, eq_self, true_or, or_true]) ?_))
  have g2_11 := g2_10.tup ht23 [v] (by repeat (first | exact OkL.nil | apply OkL.int | apply OkL.str (by decide +kernel) | apply OkL.bl | apply OkL.non | refine OkL.mem (by simp only [List.mem_cons, eq_self, true_or, or_true]) ?_))
  refine ⟨o1, t24, os1, _, rfl, rfl, up_ne (g2_11.sm _ _ x1.e) ht24, upd_same, sizes' (by rw [x1.l]; exact nle), fun o2 ho2 => ?_⟩
  have x2 := x1.cat g2_11 ht24 [.ref t14, .ref t16, .ref t18, .ref t22, .ref t23] (by repeat (first | exact OkL.nil | apply OkL.int | apply OkL.str (by decide +kernel) | apply OkL.bl | apply OkL.non | refine OkL.mem (by simp only [List.mem_cons, eq_self, true_or, or_true]) ?_)) ho2
  generalize hos2 : os1 ++ ([.ref t14, .ref t16, .ref t18, .ref t22, .ref t23] : List V) = os2 at x2 ⊢
  clear hos2
  generalize (upd (upd (upd (upd (upd (upd (upd (upd (upd (upd (upd (upd (upd H4 t13 (.tup [.str "just", .int 1])) t14 (.tup [.str "times", .str "x", .ref t13])) t15 (.tup [])) t16 (.tup [.str "mix", .ref t15])) t17 (.tup [])) t18 (.tup [.str "some", .ref t17])) t19 (.tup [.str "just", .int 1])) t20 (.tup [.int 0, .ref t19])) t21 (.tup [.ref t20])) t22 (.tup [.str "mix", .ref t21])) t23 (.tup [v])) t24 (.lst [.ref t14, .ref t16, .ref t18, .ref t22, .ref t23])) o2 (.lst os2)) = H5 at x2 ⊢
  refine ⟨_, rfl, lsz, fun t25 ht25 => ⟨lsz, fun t26 ht26 => ⟨_, rfl, lsz, fun t27 ht27 => ⟨lsz, fun t28 ht28 => ?_⟩⟩⟩⟩
  have g3_0 := x2.gd
  have g3_1 := g3_0.tup ht25 [] (by repeat (first | exact OkL.nil | apply OkL.int | apply OkL.str (by decide +kernel) | apply OkL.bl | apply OkL.non | refine OkL.mem (by simp only [List.mem_cons, eq_self, true_or, or_true]) ?_))
  have g3_2 := g3_1.tup ht26 [.str "all", .ref t25] (by repeat (first | exact OkL.nil | apply OkL.int | apply OkL.str (by decide +kernel) | apply OkL.bl | apply OkL.non | refine OkL.mem (by simp only [List.mem_cons, eq_self, true_or, or_true]) ?_))
  have g3_3 := g3_2.lst ht27 [v]
  refine ⟨o2, t28, os2, _, rfl, rfl, up_ne (g3_3.sm _ _ x2.e) ht28, upd_same, sizes' (by rw [x2.l]; exact nle), fun o3 ho3 => ?_⟩
  have x3 := x2.cat g3_3 ht28 [.ref t26, .ref t27] (by repeat (first | exact OkL.nil | apply OkL.int | apply OkL.str (by decide +kernel) | apply OkL.bl | apply OkL.non | refine OkL.mem (by simp only [List.mem_cons, eq_self, true_or, or_true]) ?_)) ho3
  generalize hos3 : os2 ++ ([.ref t26, .ref t27] : List V) = os3 at x3 ⊢
  clear hos3
  generalize (upd (upd (upd (upd (upd H5 t25 (.tup [])) t26 (.tup [.str "all", .ref t25])) t27 (.lst [v])) t28 (.lst [.ref t26, .ref t27])) o3 (.lst os3)) = H6 at x3 ⊢
  refine ⟨_, rfl, _, rfl, lsz, fun t29 ht29 => ⟨lsz, fun t30 ht30 => ⟨lsz, fun t31 ht31 => ⟨lsz, fun t32 ht32 => ⟨lsz, fun t33 ht33 => ⟨lsz, fun t34 ht34 => ⟨lsz, fun t35 ht35 => ?_⟩⟩⟩⟩⟩⟩⟩
  have g4_0 := x3.gd
  have g4_1 := g4_0.tup ht29 [.str "just", .int 1] (by repeat (first | exact OkL.nil | apply OkL.int | apply OkL.str (by decide +kernel) | apply OkL.bl | apply OkL.non | refine OkL.mem (by simp only [List.mem_cons, eq_self, true_or, or_true]) ?_))
  have g4_2 := g4_1.tup ht30 [.str "var", .str "y"] (by repeat (first | exact OkL.nil | apply OkL.int | apply OkL.str (by decide +kernel) | apply OkL.bl | apply OkL.non | refine OkL.mem (by simp only [List.mem_cons, eq_self, true_or, or_true]) ?_))
  have g4_3 := g4_2.tup ht31 [.str "let", .str "x", .ref t29, .ref t30] (by repeat (first | exact OkL.nil | apply OkL.int | apply OkL.str (by decide +kernel) | apply OkL.bl | apply OkL.non | refine OkL.mem (by simp only [List.mem_cons, eq_self, true_or, or_true]) ?_))
  have g4_4 := g4_3.tup ht32 [.str "again"] (by repeat (first | exact OkL.nil | apply OkL.int | apply OkL.str (by decide +kernel) | apply OkL.bl | apply OkL.non | refine OkL.mem (by simp only [List.mem_cons, eq_self, true_or, or_true]) ?_))
  have g4_5 := g4_4.tup ht33 [.str "just", .int 0] (by repeat (first | exact OkL.nil | apply OkL.int | apply OkL.str (by decide +kernel) | apply OkL.bl | apply OkL.non | refine OkL.mem (by simp only [List.mem_cons, eq_self, true_or, or_true]) ?_))
  have g4_6 := g4_5.tup ht34 [.str "grow", .int 2, .ref t32, .ref t33] (by repeat (first | exact OkL.nil | apply OkL.int | apply OkL.str (by decide +kernel) | apply OkL.bl | apply OkL.non | refine OkL.mem (by simp only [List.mem_cons, eq_self, true_or, or_true]) ?_))
  refine ⟨o3, t35, os3, _, rfl, rfl, up_ne (g4_6.sm _ _ x3.e) ht35, upd_same, sizes' (by rw [x3.l]; exact nle), fun o4 ho4 => ?_⟩
  have x4 := x3.cat g4_6 ht35 [.ref t31, .ref t34] (by repeat (first | exact OkL.nil | apply OkL.int | apply OkL.str (by decide +kernel) | apply OkL.bl | apply OkL.non | refine OkL.mem (by simp only [List.mem_cons, eq_self, true_or, or_true]) ?_)) ho4
  generalize hos4 : os3 ++ ([.ref t31, .ref t34] : List V) = os4 at x4 ⊢
  clear hos4
  generalize (upd (upd (upd (upd (upd (upd (upd (upd H6 t29 (.tup [.str "just", .int 1])) t30 (.tup [.str "var", .str "y"])) t31 (.tup [.str "let", .str "x", .ref t29, .ref t30])) t32 (.tup [.str "again"])) t33 (.tup [.str "just", .int 0])) t34 (.tup [.str "grow", .int 2, .ref t32, .ref t33])) t35 (.lst [.ref t31, .ref t34])) o4 (.lst os4)) = H7 at x4 ⊢
  exact ⟨z, k2, o4, os4, rfl, x4.dw.st, by omega, x4.e, x4.n1, by rw [x4.l]; exact nle, by rw [x4.l]; exact nle, fun H8 y d8 hy => qA _ _ _ ((x4.dw.trans d8).up (by omega)) ((x4.a y hy).gr (d8.gr x4.dw.st))⟩
theorem cl__law_bent (F : Df K mg "_law_bent" s__law_bent ["_law_state", "_law_thing_here"]) (T : Tx mg) (c__law_draw : Cl P w K mg base 2 "_law_draw" sp_draw) (c__law_one : Cl P w K mg base 3 "_law_one" sp_one) :
    ∀ N : Nat, Cl P w K mg base (N + 4) "_law_bent" (sp_bent N)
  | 0 => cl__law_bent1 F T c__law_draw c__law_one 0 ((F.cl (k := 2) sc__law_bent (sp := fun _ _ _ _ => False) (fun _ _ _ _ h => h.elim) (fun _ _ _ _ _ _ _ _ _ _ h => h.elim)).imp fun _ _ _ _ ⟨_, h, _⟩ => by omega)
  | N + 1 => cl__law_bent1 F T c__law_draw c__law_one (N + 1) ((cl__law_bent F T c__law_draw c__law_one N).imp fun _ _ _ _ ⟨M, h, q⟩ => by
      have e : M = N := by omega
      rw [← e]
      exact q)
end
end K6
set_option maxHeartbeats 4000001
namespace K6
open L2 PySem PySem.Spec PyProof.Rows
theorem bl_S (n : Nat) : ∀ acc : Array Nat, (List.replicate n (Str.ofString " ").cps).foldl (· ++ ·) acc = acc ++ (bl n).toArray := by
  have e : (Str.ofString " ").cps = #[32] := by decide +kernel
  induction n with
  | zero => intro acc; simp [bl]
  | succ n ih =>
    intro acc
    rw [List.replicate_succ, List.foldl_cons, ih, e]
    apply Array.ext'
    simp [bl, List.replicate_succ]
theorem op_mul_sp {X : Cx} : OpR X (binaryOp .Mult) (fun x y H Q => ∃ n : Nat, x = .str (Str.ofString " ") ∧ y = .int n ∧ n ≤ 1000 ∧ Q (.str (S (bl n))) H) := by
  (intro pins s σ H x y v u Q I rx ry h)
  obtain ⟨n, rfl, rfl, hn, q⟩ := h
  obtain ⟨t, rfl⟩ := rx
  obtain ⟨t', rfl⟩ := ry
  have l1 : (Str.ofString " ").length = 1 := by decide +kernel
  have l2 : (((Str.ofString " ").length : Nat) : Int) = 1 := by rw [l1]; rfl
  refine P.mul_str (by rw [decide_eq_false (by omega), decide_eq_false (by omega)]; rfl) (fun h1 _ h2 => ?_) (fun _ _ => ?_) ?_
  · rw [l2] at h2
    have h3 : (n : Int) ≤ (2 ^ 63 - 1) := by omega
    have : 1 ≤ (2 ^ 63 - 1 : Int) / (n : Int) := (Int.le_ediv_iff_mul_le (by omega)).mpr (by omega)
    omega
  · rw [l1, Int.toNat_natCast, Nat.one_mul]
    show decide _ = false
    exact decide_eq_false (by have : n ≤ sizeLine := sizes' (by omega); omega)
  · match n, hn, q with
    | 0, _, q =>
      rw [if_pos (by decide)]
      exact ⟨by decide, .str _, H, I.tok _, ⟨_, rfl⟩, q⟩
    | 1, _, q =>
      rw [if_neg (by decide), if_pos (by decide)]
      have e : Str.ofString " " = S (bl 1) := by decide +kernel
      exact ⟨.str _, H, I, ⟨_, rfl⟩, by rw [e]; exact q⟩
    | n + 2, hn, q =>
      rw [if_neg (by omega), if_neg (by rw [l1]; simp; omega)]
      have e : (⟨(List.replicate (((n + 2 : Nat) : Int)).toNat (Str.ofString " ").cps).foldl (· ++ ·) #[]⟩ : Str) = S (bl (n + 2)) := by
        rw [Int.toNat_natCast, bl_S]
        simp [S]
      rw [e]
      exact ⟨by rw [S_len]; exact sizes' (by show (List.replicate _ _).length ≤ _; rw [List.length_replicate]; omega), .str _, H, I.tok _, ⟨_, rfl⟩, q⟩
theorem gap_end {l : List Tok2} {t : List Nat} (h : Gap l t) (g : Nat) : Gap l (t ++ bl g) := by
  induction h with
  | nil k => rw [bl_add]; exact .nil _
  | @cons k q0 l0 t0 h0 _ hc ih =>
    have e : bl k ++ (q0.2 ++ t0) ++ bl g = bl k ++ (q0.2 ++ (t0 ++ bl g)) := by rw [List.append_assoc, List.append_assoc]
    rw [e]
    refine .cons k h0 ih (hc.imp id fun hs => ?_)
    cases t0 with
    | nil =>
      cases g with
      | zero => exact hs
      | succ g => exact .inl rfl
    | cons c r => exact hs
theorem inT_sign {q : Tok2} (h : GoodT q) (hi : inT sigL q.2 = true) : q.1 = W "sign" := by
  cases h with
  | run s hs hl =>
    exfalso
    cases s with
    | nil => exact hs rfl
    | cons c r =>
      rw [inT_head (fun z => (sig_no c (.tail _ z)).1 (hl c (.head _)))] at hi
      cases hi
  | name s hs hl =>
    exfalso
    rw [inT_head (by decide)] at hi
    cases hi
  | num i =>
    exfalso
    obtain ⟨c, r, e, h32, hns, _⟩ := good_head (GoodT.num i)
    have e2 : numW i = c :: r := e
    have hi2 : inT sigL (numW i) = true := hi
    rw [e2, inT_head (hns (by show W "number" ≠ W "sign"; decide +kernel))] at hi2
    cases hi2
  | sign c hc => rfl
def sp_loose : Sp := fun vs H Q _ => ∃ (z : Sl) (k : Nat) (a : Addr) (l : List Tok2), vs = [.ref z.s, .ref a] ∧ H a = some (.lst (wStrs (l.map (·.2)))) ∧ a ≠ z.l ∧ (∀ q ∈ l, GoodT q) ∧ l.length ≤ 30000 ∧ ((l.map (·.2)).map fun w => w.length + 1).sum ≤ 850000 ∧ St z H k ∧ k + (l.length + 2) ≤ KM ∧
  ∀ H' k' t, Dw z (l.length + 2) H k H' k' → Gap l t → t.length ≤ 1000000 → Q (.str (S t)) H'
section
variable {P : Program}
variable {w : World} {K : PySem.W.Frag} {mg : Str → Option Value} {base : Heap}
abbrev s__law_loose : Stmt := top 118
abbrev N__law_loose : List Str := ["_law_state", "_law_words_here", "_law_text", "_law_word_here", "_law_need"]
theorem sc__law_loose : FnScope N__law_loose ["_law_state", "_law_words_here"] (defScope s__law_loose) := ⟨rfl, rfl, rfl, by decide +kernel, rfl, by decide +kernel, by decide +kernel⟩
theorem cl__law_loose (F : Df K mg "_law_loose" s__law_loose ["_law_state", "_law_words_here"]) (T : Tx mg) (c__law_draw : Cl P w K mg base 2 "_law_draw" sp_draw) (c__law_one : Cl P w K mg base 3 "_law_one" sp_one) : Cl P w K mg base 4 "_law_loose" sp_loose := by
  refine F.cl sc__law_loose (fun vs H Q E h => by obtain ⟨_, _, _, _, rfl, _⟩ := h; rfl) (fun f cdv A outer s H vs Q E hr h => ?_)
  have nd := sc__law_loose.nd
  obtain ⟨z, k, a, l, rfl, ea, na, hg, hl, hz, st, hk, q⟩ := h
  refine ⟨_, (pss_cons (pset 2 nd (pe_op op_mul_sp pe_str (pf c__law_draw hr (by omega) rfl (pa_cons (pv 0) (pa_cons pe_int pa_nil)))))
    (pss_cons (ps_for (passes_of rfl) rfl (pi_listK K (pv 1)) (pgn 3 nd) (C8.pss_cut (pset 4 nd (pe_callTy call_int1 rfl T.n_int bt_int (pa_cons (pe_and (pe_cmpR op_ne (pv 2) pe_str (nomark _)) (pe_and (pe_cmpR op_notIn_sign (pe_ix ix_str (pv 2) (pe_un un_neg pe_int) (fun _ _ => rfl)) pe_str rfl) (pe_one (pe_cmpR op_notIn_str (pv 3) pe_str rfl)))) pa_nil)))
      (pss_one (pset 2 nd (pe_op op_add_str (pe_op op_add_str (pv 2) (pe_op op_mul_sp pe_str (pf c__law_one hr (by omega) rfl (pa_cons (pv 0) (pa_cons (pe_lst (pa_cons (pv 4) (pa_cons (pv 4) (pa_cons pe_int (pa_cons pe_int pa_nil))))) pa_nil))))) (pv 3))))))
    (pss_one (ps_ret (pe_op op_add_str (pv 2) (pe_op op_mul_sp pe_str (pf c__law_draw hr (by omega) rfl (pa_cons (pv 0) (pa_cons pe_int pa_nil))))))))), ?_⟩
  refine ⟨_, rfl, z, k, _, rfl, st, by omega, by decide, by decide, fun H1 i d1 h1 h2 => ?_⟩
  obtain ⟨n, rfl⟩ : ∃ n : Nat, i = (n : Int) := ⟨i.toNat, by omega⟩
  refine ⟨n, rfl, rfl, by omega, ?_⟩
  have ea1 := d1.kp _ _ (ne_of ea st.d (by intro y; cases y)) na ea
  have ns : a ≠ z.s := ne_of ea st.d (by intro y; cases y)
  refine ⟨_, rfl, a, rfl, ⟨_, sql ea1⟩, for_it (walk_list (xs := wStrs (l.map (·.2)))) (fun i σ' H' => ∃ k' t u w, σ' = [some (.ref z.s), some (.ref a), some (.str (S t)), u, w] ∧ Dw z (1 + i) H k H' k' ∧ Gap (l.take i) t ∧ t.length ≤ 3 + 3 * i + (((l.map (·.2)).take i).map fun w => w.length + 1).sum) ⟨k + 1, bl n, none, none, rfl, d1, .nil _, by show (List.replicate _ _).length ≤ _; rw [List.length_replicate]; omega⟩ (fun i σ' H' _ p => ?_) ?_ ?_⟩
  · obtain ⟨k', t, u, w, _, d, _⟩ := p
    exact sql (d.kp _ _ ns na ea)
  · rintro j x σ' H2 H3 hj ⟨k2, t, u, w, rfl, d2, gt, lt⟩ ⟨rfl, hx⟩
    obtain ⟨wd, hw, rfl⟩ := wStrs_get hx
    obtain ⟨tk, htk, rfl⟩ : ∃ tk, l[j]? = some tk ∧ wd = tk.2 := by
      rw [List.getElem?_map] at hw
      cases e : l[j]? with
      | none => rw [e] at hw; cases hw
      | some tk => rw [e] at hw; exact ⟨tk, rfl, (Option.some.inj hw).symm⟩
    have gk := hg _ (List.mem_of_getElem? htk)
    have hjl : j < l.length := (List.getElem?_eq_some_iff.mp htk).1
    have hsum : (((l.map (·.2)).take (j + 1)).map fun w => w.length + 1).sum = (((l.map (·.2)).take j).map fun w => w.length + 1).sum + (tk.2.length + 1) := by
      rw [List.take_succ, hw, List.map_append, List.sum_append]
      simp
    have hsz := sum_take (ws := l.map (·.2)) (j + 1)
    have htake : l.take (j + 1) = l.take j ++ [tk] := by rw [List.take_succ, htk]; rfl
    have cond0 : ∀ x, x = (Str.ofString " ()[]").cps.toList → x = 32 :: sigL := fun x e => by rw [e]; decide +kernel
    refine ⟨fun σ' H' => ∃ b : Bool, σ' = [some (.ref z.s), some (.ref a), some (.str (S t)), some (.str (S tk.2)), some (.int (if b = true then 1 else 0))] ∧ H' = H3 ∧ (b = false → t = [] ∨ t.getLastD 0 ∈ (32 :: sigL) ∨ tk.1 = W "sign"), ?_, ?_⟩
    · refine ⟨_, rfl, rfl, _, rfl, ?_⟩
      rw [dnil]
      cases et : t.isEmpty with
      | true => exact iteF (.inr ⟨_, rfl, false, rfl, rfl, fun _ => .inl (List.isEmpty_iff.mp et)⟩)
      | false =>
        have hne : t ≠ [] := fun e => by subst e; cases et
        refine iteT ⟨_, rfl, 1, rfl, _, _, _, rfl, rfl, by rw [S_len]; exact sizes' (by omega), last_at hne, _, _, rfl, rfl, _, rfl, ?_⟩
        rw [show (Str.ofString " ()[]").cps.toList = 32 :: sigL by decide +kernel]
        cases e2 : decide (t.getLastD 0 ∈ (32 :: sigL)) with
        | true => exact iteF (.inr ⟨_, rfl, false, rfl, rfl, fun _ => .inr (.inl (of_decide_eq_true e2))⟩)
        | false =>
          refine iteT ⟨_, rfl, _, _, rfl, rfl, .inr ⟨_, rfl, _, rfl, rfl, fun hb => .inr (.inr (inT_sign gk ?_))⟩⟩
          rw [show (Str.ofString "()[]" : Str) = S sigL by decide +kernel] at hb
          have hb2 : (!inT sigL tk.2) = false := hb
          cases e3 : inT sigL tk.2 with
          | true => rfl
          | false => rw [e3] at hb2; cases hb2
    · rintro σ' H4 ⟨b, rfl, rfl, hc⟩
      have k2le := d2.le
      refine ⟨_, rfl, _, rfl, _, rfl, _, rfl, lsz, fun T hT => ⟨z, k2, T, _, rfl, d2.st.new hT, by omega, upd_same, (d2.st.fresh hT).2.1, nle, nle, fun H5 y d5 hy => ?_⟩⟩
      obtain ⟨g, rfl, hg3, hgc⟩ : ∃ g : Nat, y = V.int (g : Int) ∧ g ≤ 3 ∧ (1 ≤ g ∨ b = false) := by
        simp only [List.mem_cons, List.not_mem_nil, or_false] at hy
        cases b with
        | true => rcases hy with rfl | rfl | rfl | rfl; exact ⟨1, rfl, by omega, .inl (by omega)⟩; exact ⟨1, rfl, by omega, .inl (by omega)⟩; exact ⟨1, rfl, by omega, .inl (by omega)⟩; exact ⟨3, rfl, by omega, .inl (by omega)⟩
        | false => rcases hy with rfl | rfl | rfl | rfl; exact ⟨0, rfl, by omega, .inr rfl⟩; exact ⟨0, rfl, by omega, .inr rfl⟩; exact ⟨1, rfl, by omega, .inl (by omega)⟩; exact ⟨3, rfl, by omega, .inl (by omega)⟩
      have lbl : (bl g).length = g := List.length_replicate
      refine ⟨g, rfl, rfl, by omega, _, _, rfl, rfl, by rw [S_len, S_len]; exact sizes' (by omega), _, rfl, _, _, rfl, rfl, by rw [SX.S_cat, S_len, S_len, List.length_append]; exact sizes' (by omega), k2 + 1, t ++ (bl g ++ tk.2), some (.str (S tk.2)), some (.int (if b = true then 1 else 0)), ?_, ((d2.new hT).trans d5).up (by omega), ?_, ?_⟩
      · rw [SX.S_cat, SX.S_cat, List.append_assoc]
        rfl
      · rw [htake]
        exact gap_snoc gt gk (hgc.imp id fun e => hc e)
      · rw [hsum, List.length_append, List.length_append]
        omega
  · rintro σ' H2 ⟨k2, t, u, w, rfl, d2, gt, lt⟩
    have lw : (wStrs (l.map (·.2))).length = l.length := by unfold wStrs; rw [List.length_map, List.length_map]
    rw [lw] at d2 gt lt
    rw [List.take_of_length_le (Nat.le_refl _)] at gt
    have k2le := d2.le
    have hsz := sum_take (ws := l.map (·.2)) l.length
    refine ⟨_, rfl, _, rfl, z, k2, _, rfl, d2.st, by omega, by decide, by decide, fun H3 i d3 h1 h2 => ?_⟩
    obtain ⟨n2, rfl⟩ : ∃ n : Nat, i = (n : Int) := ⟨i.toNat, by omega⟩
    have lbl : (bl n2).length = n2 := List.length_replicate
    refine ⟨n2, rfl, rfl, by omega, _, _, rfl, rfl, by rw [S_len, S_len]; exact sizes' (by omega), ?_⟩
    rw [SX.S_cat]
    exact q _ _ _ ((d2.trans d3).up (by omega)) (gap_end gt n2) (by rw [List.length_append]; omega)
end
end K6
set_option maxHeartbeats 4000001
namespace K6
open L2 PySem PySem.Spec PyProof.Rows
mutual
def py : D → PyData
  | .int i => .int i
  | .str s => .str (S s)
  | .bl b => .bool b
  | .non => .none
  | .oth => .none
  | .tup ds => .tuple (pys ds)
def pys : List D → List PyData
  | [] => []
  | d :: r => py d :: pys r
end
mutual
def okS : D → Bool
  | .int i => decide (-(10 ^ 60) < i) && decide (i < 10 ^ 60)
  | .str s => isNm s
  | .tup ds => okSs ds
  | .bl _ => false
  | .non => false
  | .oth => false
def okSs : List D → Bool
  | [] => true
  | d :: r => okS d && okSs r
end
mutual
def szB : D → Nat
  | .tup ds => 5 + szBs ds
  | .int _ => 84
  | .str _ => 84
  | .bl _ => 84
  | .non => 84
  | .oth => 84
def szBs : List D → Nat
  | [] => 0
  | d :: r => szB d + szBs r
end
theorem okSs_cons {d : D} {r : List D} (h : okSs (d :: r) = true) : okS d = true ∧ okSs r = true := by
  have h2 : (okS d && okSs r) = true := by rw [okSs] at h; exact h
  rw [Bool.and_eq_true] at h2
  exact h2
theorem okSs_of : ∀ {ds : List D}, (∀ d ∈ ds, okS d = true) → okSs ds = true
  | [], _ => by rw [okSs]
  | d :: r, h => by rw [okSs, h d (.head _), okSs_of fun e he => h e (.tail _ he)]; rfl
theorem okS_tup {ds : List D} (h : ∀ d ∈ ds, okS d = true) : okS (.tup ds) = true := by rw [okS]; exact okSs_of h
theorem szBs_eq (ds : List D) : szBs ds = (ds.map szB).sum := by
  induction ds with
  | nil => rw [szBs]; rfl
  | cons d r ih => rw [szBs, ih, List.map_cons, List.sum_cons]
theorem okS_int {i : Int} (h : okS (.int i) = true) : -(10 ^ 60) < i ∧ i < 10 ^ 60 := by
  rw [okS, Bool.and_eq_true, decide_eq_true_eq, decide_eq_true_eq] at h
  exact h
theorem okS_str {s : List Nat} (h : okS (.str s) = true) : isNm s = true := by rw [okS] at h; exact h
theorem log_num2 {i : Int} (h1 : -(10 ^ 60) < i) (h2 : i < 10 ^ 60) : i.natAbs.log2 < 1920 := by
  have h3 : i.natAbs < 2 ^ 200 := by
    have : (10 : Int) ^ 60 < 2 ^ 200 := by decide
    have h4 : ((2 : Int) ^ 200) = ((2 ^ 200 : Nat) : Int) := rfl
    omega
  by_cases h0 : i.natAbs = 0
  · rw [h0]
    decide
  · exact Nat.lt_trans ((Nat.log2_lt h0).mpr h3) (by decide)
mutual
theorem dp_py {K : PySem.W.Frag} {H : Hp} : ∀ (d : D) (v : V), Rep H v d → okS d = true → Dp K H v (py d)
  | .int i, v, r, _ => by cases r; rw [py]; exact .int i
  | .str s, v, r, _ => by cases r; rw [py]; exact .str _
  | .tup ds, v, r, h => by
    obtain ⟨a, xs, rfl, e, rs⟩ := r.tup_inv
    rw [okS] at h
    rw [py]
    exact .tup (sqt e) (dp_pys ds xs rs h)
  | .bl _, v, r, h => by rw [okS] at h; cases h
  | .non, v, r, h => by rw [okS] at h; cases h
  | .oth, v, r, h => by rw [okS] at h; cases h
theorem dp_pys {K : PySem.W.Frag} {H : Hp} : ∀ (ds : List D) (xs : List V), Reps H xs ds → okSs ds = true → DpAll K H xs (pys ds)
  | [], xs, r, _ => by
    have e : xs = [] := List.eq_nil_of_length_eq_zero r.1
    rw [e, pys]
    exact .nil
  | d :: ds, [], r, _ => by have := r.1; simp at this
  | d :: ds, x :: xs, r, h => by
    obtain ⟨h1, h2⟩ := okSs_cons h
    rw [pys]
    exact .cons (dp_py d x (r.2 0 x d rfl rfl) h1) (dp_pys ds xs (All2.tail r) h2)
end
mutual
theorem py_show : ∀ d : D, okS d = true → (py d).showable = true ∧ (py d).hasDict = false ∧ (py d).canLay0 = true ∧ (py d).shown.length + 2 ≤ szB d
  | .int i, h => by
    obtain ⟨h1, h2⟩ := okS_int h
    rw [py, szB]
    refine ⟨?_, by rw [PyData.hasDict], by rw [PyData.canLay0], ?_⟩
    · rw [PyData.showable, decide_eq_true_eq]
      exact log_num2 h1 h2
    · rw [PyData.shown, numS, S_len]
      have := numW_len (k := 60) (i := i) (by decide) h1 h2
      omega
  | .str s, h => by
    have hn := okS_str h
    have hn2 := hn
    unfold isNm at hn2
    rw [Bool.and_eq_true, Bool.and_eq_true, decide_eq_true_eq, decide_eq_true_eq, List.all_eq_true] at hn2
    obtain ⟨_, h8, hall⟩ := hn2
    have hlow : ∀ c ∈ s, c ≤ 122 := fun c hc => (mem_small.mp (of_decide_eq_true (hall c hc))).2
    rw [py, szB]
    refine ⟨by rw [PyData.showable], by rw [PyData.hasDict], ?_, ?_⟩
    · rw [PyData.canLay0]
      show (S s).cps.all _ = true
      rw [Array.all_eq_true']
      intro c hc
      have : c ∈ s := by simpa [S] using hc
      have := hlow c this
      (exact decide_eq_true (by omega))
    · rw [PyData.shown]
      have := StrLaws.reprText_len (S s) fun c hc => by
        have := hlow c hc
        (have e : (16 : Nat) ^ 8 = 4294967296 := by decide)
        omega
      rw [S_len s] at this
      omega
  | .tup ds, h => by
    rw [okS] at h
    obtain ⟨h1, h2, h3, h4⟩ := py_shows ds h
    rw [py, szB]
    refine ⟨by rw [PyData.showable]; exact h1, by rw [PyData.hasDict]; exact h2, by rw [PyData.canLay0]; exact h3, ?_⟩
    rw [PyData.shown]
    have := tupleText_len_le (PyData.shownAll (pys ds))
    omega
  | .bl _, h => by rw [okS] at h; cases h
  | .non, h => by rw [okS] at h; cases h
  | .oth, h => by rw [okS] at h; cases h
theorem py_shows : ∀ ds : List D, okSs ds = true → PyData.showableAll (pys ds) = true ∧ PyData.hasDictAll (pys ds) = false ∧ PyData.canLayAll0 (pys ds) = true ∧ ((PyData.shownAll (pys ds)).map (·.length)).sum + 2 * (PyData.shownAll (pys ds)).length ≤ szBs ds
  | [], _ => by
    rw [pys, szBs]
    exact ⟨by rw [PyData.showableAll], by rw [PyData.hasDictAll], by rw [PyData.canLayAll0], by rw [PyData.shownAll]; simp⟩
  | d :: ds, h => by
    obtain ⟨h1, h2⟩ := okSs_cons h
    obtain ⟨a1, a2, a3, a4⟩ := py_show d h1
    obtain ⟨b1, b2, b3, b4⟩ := py_shows ds h2
    rw [pys, szBs]
    refine ⟨by rw [PyData.showableAll, a1, b1]; rfl, by rw [PyData.hasDictAll, a2, b2]; rfl, by rw [PyData.canLayAll0, a3, b3]; rfl, ?_⟩
    rw [PyData.shownAll, List.map_cons, List.sum_cons, List.length_cons]
    omega
end
mutual
theorem py_dep : ∀ (d : D) (n : Nat), bdd n d = true → (py d).depth ≤ n
  | .tup ds, n, h => by
    obtain ⟨m, rfl, _, hk⟩ := bdd_tup h
    rw [py, PyData.depth]
    have := py_deps ds m hk
    omega
  | .int _, n, _ => by rw [py, PyData.depth]; omega
  | .str _, n, _ => by rw [py, PyData.depth]; omega
  | .bl _, n, _ => by rw [py, PyData.depth]; omega
  | .non, n, _ => by rw [py, PyData.depth]; omega
  | .oth, n, _ => by rw [py, PyData.depth]; omega
theorem py_deps : ∀ (ds : List D) (n : Nat), (∀ d ∈ ds, bdd n d = true) → PyData.depthAll (pys ds) ≤ n
  | [], n, _ => by rw [pys, PyData.depthAll]; omega
  | d :: ds, n, h => by
    have h1 := py_dep d n (h d (.head _))
    have h2 := py_deps ds n fun e he => h e (.tail _ he)
    rw [pys, PyData.depthAll]
    omega
end
mutual
theorem py_eqv : ∀ d e : D, okS d = true → okS e = true → (PyData.eqv (py d) (py e) = true ↔ d = e)
  | .int i, .int j, _, _ => by
    rw [py, py, PyData.eqv, beq_iff_eq]
    exact ⟨fun h => by rw [h], fun h => by cases h; rfl⟩
  | .str s, .str t, _, _ => by
    rw [py, py, PyData.eqv, beq_iff_eq]
    exact ⟨fun h => by rw [S_inj' h], fun h => by cases h; rfl⟩
  | .tup ds, .tup es, h1, h2 => by
    rw [okS] at h1 h2
    rw [py, py, PyData.eqv, py_eqvs ds es h1 h2]
    exact ⟨fun h => by rw [h], fun h => by cases h; rfl⟩
  | .int i, .str t, _, _ => by rw [py, py, PyData.eqv]; exact ⟨(fun h => by cases h), (fun h => by cases h)⟩
  | .int i, .tup es, _, _ => by rw [py, py, PyData.eqv]; exact ⟨(fun h => by cases h), (fun h => by cases h)⟩
  | .str s, .int j, _, _ => by rw [py, py, PyData.eqv]; exact ⟨(fun h => by cases h), (fun h => by cases h)⟩
  | .str s, .tup es, _, _ => by rw [py, py, PyData.eqv]; exact ⟨(fun h => by cases h), (fun h => by cases h)⟩
  | .tup ds, .int j, _, _ => by rw [py, py, PyData.eqv]; exact ⟨(fun h => by cases h), (fun h => by cases h)⟩
  | .tup ds, .str t, _, _ => by rw [py, py, PyData.eqv]; exact ⟨(fun h => by cases h), (fun h => by cases h)⟩
  | .bl _, _, h, _ => by rw [okS] at h; cases h
  | .non, _, h, _ => by rw [okS] at h; cases h
  | .oth, _, h, _ => by rw [okS] at h; cases h
  | _, .bl _, _, h => by rw [okS] at h; cases h
  | _, .non, _, h => by rw [okS] at h; cases h
  | _, .oth, _, h => by rw [okS] at h; cases h
theorem py_eqvs : ∀ ds es : List D, okSs ds = true → okSs es = true → (PyData.eqvAll (pys ds) (pys es) = true ↔ ds = es)
  | [], [], _, _ => by rw [pys, PyData.eqvAll]; exact ⟨fun _ => rfl, fun _ => rfl⟩
  | [], _ :: _, _, _ => by rw [pys, pys, PyData.eqvAll]; exact ⟨(fun h => by cases h), (fun h => by cases h)⟩
  | _ :: _, [], _, _ => by rw [pys, pys, PyData.eqvAll]; exact ⟨(fun h => by cases h), (fun h => by cases h)⟩
  | d :: ds, e :: es, h1, h2 => by
    obtain ⟨a1, a2⟩ := okSs_cons h1
    obtain ⟨b1, b2⟩ := okSs_cons h2
    rw [pys, pys, PyData.eqvAll, Bool.and_eq_true, py_eqv d e a1 b1, py_eqvs ds es a2 b2]
    exact ⟨fun h => by rw [h.1, h.2], fun h => by cases h; exact ⟨rfl, rfl⟩⟩
end
theorem okS_tok {b : Int} (hb : b ≤ 10 ^ 60) : ∀ (n : Nat) (d : D), tok (gd b) n d = true → okS d = true
  | 0, _, h => by cases h
  | n + 1, .tup ds, h => by
    have h2 : (true && ds.all (tok (gd b) n)) = true := h
    rw [Bool.true_and, List.all_eq_true] at h2
    exact okS_tup fun d hd => okS_tok hb n d (h2 d hd)
  | n + 1, .int i, h => by
    have h2 : (decide (-b < i) && decide (i < b)) = true := h
    rw [Bool.and_eq_true, decide_eq_true_eq, decide_eq_true_eq] at h2
    rw [okS, decide_eq_true (show -(10 ^ 60) < i by omega), decide_eq_true (show i < 10 ^ 60 by omega)]
    rfl
  | n + 1, .str s, h => by rw [okS]; exact h
  | n + 1, .bl _, h => by cases h
  | n + 1, .non, h => by cases h
  | n + 1, .oth, h => by cases h
theorem sz_tok {g : D → Bool} : ∀ (n : Nat) (d : D), tok g n d = true → szB d ≤ 84 * cnt n d
  | 0, _, h => by cases h
  | n + 1, .tup ds, h => by
    have h2 : (g (.tup ds) && ds.all (tok g n)) = true := h
    rw [Bool.and_eq_true, List.all_eq_true] at h2
    rw [szB, szBs_eq]
    show 5 + _ ≤ 84 * (1 + (ds.map (cnt n)).sum)
    have key : ∀ l : List D, (∀ d ∈ l, tok g n d = true) → (l.map szB).sum ≤ 84 * (l.map (cnt n)).sum := by
      intro l
      induction l with
      | nil => intro _; simp
      | cons d r ih =>
        intro h
        have h1 := sz_tok n d (h d (.head _))
        have h2 := ih fun e he => h e (.tail _ he)
        rw [List.map_cons, List.sum_cons, List.map_cons, List.sum_cons]
        omega
    have := key ds h2.2
    omega
  | n + 1, .int _, _ => by rw [szB]; exact Nat.le_refl _
  | n + 1, .str _, _ => by rw [szB]; exact Nat.le_refl _
  | n + 1, .bl _, _ => by rw [szB]; exact Nat.le_refl _
  | n + 1, .non, _ => by rw [szB]; exact Nat.le_refl _
  | n + 1, .oth, _ => by rw [szB]; exact Nat.le_refl _
theorem own_sz {t : D} (h : own t = true) : okS t = true ∧ szB t ≤ 5040 := by
  obtain ⟨h1, h2⟩ := own_iff.mp h
  refine ⟨okS_tok (by decide) 6 t h1, ?_⟩
  have := sz_tok 6 t h1
  omega
theorem gn_ok {s : String} {ds : List D} (hs : isNm (W s) = true) (h : ∀ d ∈ ds, okS d = true) : okS (gnD s ds) = true := okS_tup fun d hd => by
  (rcases List.mem_cons.mp hd with rfl | hd)
  · rw [okS]; exact hs
  · exact h d hd
theorem gn_sz {s : String} {ds : List D} : szB (gnD s ds) = 89 + szBs ds := by
  show szB (.tup _) = _
  rw [szB, szBs, szB]
  omega
theorem hf_sz {d : D} (h : hf d = true) : ((∀ k ∈ kidsG d, okS k = true) → okS d = true) ∧ szB d ≤ 60000 + ((kidsG d).map szB).sum := by
  rw [← scG_fst (ns := []) (gr := false) h]
  have hv := hf_inv h
  clear h
  have i1 : ∀ {i : Int}, -1000 ≤ i → i ≤ 1000 → okS (.int i) = true := fun a b => by rw [okS, decide_eq_true (by omega), decide_eq_true (by omega)]; rfl
  cases hv with
  | just t h1 =>
    obtain ⟨o1, o2⟩ := own_sz h1
    refine ⟨fun _ => gn_ok (by decide +kernel) fun a ha => ?_, ?_⟩
    · rw [List.mem_singleton] at ha
      rw [ha]
      exact o1
    · rw [gn_sz, szBs_eq]
      (simp only [List.map_cons, List.map_nil, List.sum_cons, List.sum_nil])
      omega
  | some ts h1 h2 h3 =>
    refine ⟨fun _ => gn_ok (by decide +kernel) fun a ha => ?_, ?_⟩
    · rw [List.mem_singleton] at ha
      rw [ha]
      exact okS_tup fun t ht => (own_sz (h3 t ht)).1
    · rw [gn_sz, szBs_eq]
      (simp only [List.map_cons, List.map_nil, List.sum_cons, List.sum_nil])
      rw [szB, szBs_eq]
      have key : ∀ l : List D, (∀ t ∈ l, own t = true) → (l.map szB).sum ≤ 5040 * l.length := by
        intro l
        induction l with
        | nil => intro _; simp
        | cons d r ih =>
          intro h
          have h1 := (own_sz (h d (.head _))).2
          have h2 := ih fun e he => h e (.tail _ he)
          rw [List.map_cons, List.sum_cons, List.length_cons]
          omega
      have := key ts h3
      omega
  | «from» i j h1 =>
    have hb : ∀ {i : Int}, bnd (.int i) = true → -(10 ^ 60) < i ∧ i < 10 ^ 60 := fun {i} h => by
      have h2 : (decide (-(10 ^ 30) < i) && decide (i < 10 ^ 30)) = true := h
      rw [Bool.and_eq_true, decide_eq_true_eq, decide_eq_true_eq] at h2
      omega
    rw [span_int, Bool.and_eq_true, Bool.and_eq_true] at h1
    obtain ⟨b1, b2⟩ := hb h1.1
    obtain ⟨b3, b4⟩ := hb h1.2.1
    refine ⟨fun _ => gn_ok (by decide +kernel) fun a ha => ?_, ?_⟩
    · simp only [List.mem_cons, List.not_mem_nil, or_false] at ha
      rcases ha with rfl | rfl
      · rw [okS, decide_eq_true (by assumption), decide_eq_true (by assumption)]
        rfl
      · rw [okS, decide_eq_true (by assumption), decide_eq_true (by assumption)]
        rfl
    · rw [gn_sz, szBs_eq]
      simp only [List.map_cons, List.map_nil, List.sum_cons, List.sum_nil, szB]
      omega
  | mix ps h1 h2 h3 =>
    rw [kids_mix]
    refine ⟨fun hk => gn_ok (by decide +kernel) fun a ha => ?_, ?_⟩
    · rw [List.mem_singleton] at ha
      rw [ha]
      refine okS_tup fun t ht => ?_
      obtain ⟨p, hp, rfl⟩ := List.mem_map.mp ht
      have := h3 p hp
      refine okS_tup fun u hu => ?_
      simp only [List.mem_cons, List.not_mem_nil, or_false] at hu
      rcases hu with rfl | rfl
      · exact i1 (by omega) (by omega)
      · exact hk _ (List.mem_map.mpr ⟨(p.2, [], false), List.mem_map.mpr ⟨p.2, List.mem_map.mpr ⟨p, hp, rfl⟩, rfl⟩, rfl⟩)
    · rw [gn_sz, szBs_eq]
      (simp only [List.map_cons, List.map_nil, List.sum_cons, List.sum_nil])
      rw [szB, szBs_eq]
      have key : ∀ l : List (Int × D), ((l.map fun p => D.tup [.int p.1, p.2]).map szB).sum = 89 * l.length + ((((l.map (·.2)).map fun d => ((d, [], false) : GB)).map (·.1)).map szB).sum := by
        intro l
        induction l with
        | nil => rfl
        | cons p r ih =>
          (simp only [List.map_cons, List.sum_cons, List.length_cons])
          rw [ih, szB, szBs, szBs, szBs, szB]
          omega
      have := key ps
      show 89 + (5 + _ + 0) ≤ 60000 + ((((ps.map (·.2)).map fun d => ((d, [], false) : GB)).map (·.1)).map szB).sum
      omega
  | all ds h1 =>
    rw [sc_all]
    have e : ((tupL (.tup ds)).map fun d => ((d, [], false) : GB)).map (·.1) = ds := by
      show (ds.map _).map _ = ds
      rw [List.map_map]
      exact List.map_id ds
    rw [e]
    refine ⟨fun hk => gn_ok (by decide +kernel) fun a ha => ?_, ?_⟩
    · rw [List.mem_singleton] at ha
      rw [ha]
      exact okS_tup hk
    · rw [gn_sz, szBs_eq]
      (simp only [List.map_cons, List.map_nil, List.sum_cons, List.sum_nil])
      rw [szB, szBs_eq]
      omega
  | row i j d h1 h2 h3 =>
    rw [sc_row]
    refine ⟨fun hk => gn_ok (by decide +kernel) fun a ha => ?_, ?_⟩
    · simp only [List.mem_cons, List.not_mem_nil, or_false] at ha
      (rcases ha with rfl | rfl | rfl)
      · exact i1 (by omega) (by omega)
      · exact i1 (by omega) (by omega)
      · exact hk _ (.head _)
    · rw [gn_sz, szBs_eq]
      simp only [List.map_cons, List.map_nil, List.sum_cons, List.sum_nil, szB]
      omega
  | turn w d h1 =>
    rw [sc_turn]
    refine ⟨fun hk => gn_ok (by decide +kernel) fun a ha => ?_, ?_⟩
    · simp only [List.mem_cons, List.not_mem_nil, or_false] at ha
      rcases ha with rfl | rfl
      · have key : ∀ w ∈ turnW, isNm w = true := by decide +kernel
        rw [okS]
        exact key w h1
      · exact hk _ (.head _)
    · rw [gn_sz, szBs_eq]
      simp only [List.map_cons, List.map_nil, List.sum_cons, List.sum_nil, szB]
      omega
  | keep w i d h1 h2 h3 =>
    rw [sc_keep]
    refine ⟨fun hk => gn_ok (by decide +kernel) fun a ha => ?_, ?_⟩
    · simp only [List.mem_cons, List.not_mem_nil, or_false] at ha
      (rcases ha with rfl | rfl | rfl)
      · have key : ∀ w ∈ testW, isNm w = true := by decide +kernel
        rw [okS]
        exact key w h1
      · exact i1 (by omega) (by omega)
      · exact hk _ (.head _)
    · rw [gn_sz, szBs_eq]
      simp only [List.map_cons, List.map_nil, List.sum_cons, List.sum_nil, szB]
      omega
  | «let» x c d h1 =>
    rw [sc_let]
    refine ⟨fun hk => gn_ok (by decide +kernel) fun a ha => ?_, ?_⟩
    · simp only [List.mem_cons, List.not_mem_nil, or_false] at ha
      (rcases ha with rfl | rfl | rfl)
      · rw [okS]; exact h1
      · exact hk _ (.head _)
      · exact hk _ (.tail _ (.head _))
    · rw [gn_sz, szBs_eq]
      simp only [List.map_cons, List.map_nil, List.sum_cons, List.sum_nil, szB]
      omega
  | var x h1 =>
    refine ⟨fun hk => gn_ok (by decide +kernel) fun a ha => ?_, ?_⟩
    · rw [List.mem_singleton] at ha
      rw [ha, okS]
      exact h1
    · rw [gn_sz, szBs_eq]
      simp only [List.map_cons, List.map_nil, List.sum_cons, List.sum_nil, szB]
      omega
  | upto x h1 =>
    refine ⟨fun hk => gn_ok (by decide +kernel) fun a ha => ?_, ?_⟩
    · rw [List.mem_singleton] at ha
      rw [ha, okS]
      exact h1
    · rw [gn_sz, szBs_eq]
      simp only [List.map_cons, List.map_nil, List.sum_cons, List.sum_nil, szB]
      omega
  | times x d h1 =>
    rw [sc_times]
    refine ⟨fun hk => gn_ok (by decide +kernel) fun a ha => ?_, ?_⟩
    · simp only [List.mem_cons, List.not_mem_nil, or_false] at ha
      rcases ha with rfl | rfl
      · rw [okS]; exact h1
      · exact hk _ (.head _)
    · rw [gn_sz, szBs_eq]
      simp only [List.map_cons, List.map_nil, List.sum_cons, List.sum_nil, szB]
      omega
  | grow i c d h1 h2 =>
    rw [sc_grow]
    refine ⟨fun hk => gn_ok (by decide +kernel) fun a ha => ?_, ?_⟩
    · simp only [List.mem_cons, List.not_mem_nil, or_false] at ha
      (rcases ha with rfl | rfl | rfl)
      · exact i1 (by omega) (by omega)
      · exact hk _ (.head _)
      · exact hk _ (.tail _ (.head _))
    · rw [gn_sz, szBs_eq]
      simp only [List.map_cons, List.map_nil, List.sum_cons, List.sum_nil, szB]
      omega
  | again =>
    refine ⟨fun hk => gn_ok (by decide +kernel) (fun a ha => by cases ha), ?_⟩
    rw [gn_sz, szBs]
    omega
theorem fok_sz : ∀ (n : Nat) (d : D), fok n d = true → okS d = true ∧ szB d ≤ 60000 * gct n d
  | 0, d, h => by cases h
  | n + 1, d, h => by
    obtain ⟨h1, h2⟩ := hf_sz (fok_hf h)
    have hk := fok_kids h
    refine ⟨h1 fun k hk2 => (fok_sz n k (hk k hk2)).1, ?_⟩
    show _ ≤ 60000 * (1 + ((kidsG d).map (gct n)).sum)
    have key : ∀ l : List D, (∀ d ∈ l, fok n d = true) → (l.map szB).sum ≤ 60000 * (l.map (gct n)).sum := by
      intro l
      induction l with
      | nil => intro _; simp
      | cons d r ih =>
        intro h
        have h1 := (fok_sz n d (h d (.head _))).2
        have h2 := ih fun e he => h e (.tail _ he)
        rw [List.map_cons, List.sum_cons, List.map_cons, List.sum_cons]
        omega
    have := key _ hk
    omega
theorem fb_way {good : D → Bool} {most : Nat} (hm : most ≤ 300) : ∀ {n : Nat} {left : List It} {way : List Nat}, (∀ it ∈ left, it.1.length ≤ 6 ∧ ∀ k ∈ it.1, k < 300) → fb good most n left = some way → way.length ≤ 6 ∧ ∀ k ∈ way, k < 300
  | _, [], _, _, e => by unfold fb at e; cases e
  | 0, it :: left, way, h, e => by
    have e2 : some it.1 = some way := e
    cases e2
    exact h it (.head _)
  | n + 1, it :: left, way, h, e => by
    unfold fb at e
    split at e
    · cases e
      exact h it (.head _)
    · rename_i hc
      refine fb_way hm (fun it2 h2 => ?_) e
      rcases List.mem_append.mp h2 with h2 | h2
      · have hit := h it (.head _)
        unfold kids at h2
        split at h2
        · obtain ⟨k, hk, rfl⟩ := List.mem_map.mp h2
          have hk2 := List.mem_range.mp hk
          refine ⟨by rw [List.length_append, List.length_singleton]; simp only [not_or, Nat.not_lt] at hc; omega, fun j hj => ?_⟩
          rcases List.mem_append.mp hj with hj | hj
          · exact hit.2 j hj
          · rw [List.mem_singleton] at hj
            omega
        · cases h2
      · exact h it2 (.tail _ h2)
theorem sw_way {β : Type} {ok : β → Bool} {sub : β → List β} (hs : ∀ b, ok b = true → (sub b).length ≤ 6) : ∀ {n : Nat} {left : List (List Nat × β)} {way : List Nat}, (∀ it ∈ left, it.1.length ≤ 6 ∧ ∀ k ∈ it.1, k < 300) → sw ok sub n left = some way → way.length ≤ 6 ∧ ∀ k ∈ way, k < 300
  | _, [], _, _, e => by unfold sw at e; cases e
  | 0, it :: left, way, h, e => by
    have e2 : some it.1 = some way := e
    cases e2
    exact h it (.head _)
  | n + 1, it :: left, way, h, e => by
    unfold sw at e
    split at e
    · cases e
      exact h it (.head _)
    · rename_i hc
      simp only [not_or, Nat.not_lt, Bool.not_eq_false] at hc
      refine sw_way hs (fun it2 h2 => ?_) e
      rcases List.mem_append.mp h2 with h2 | h2
      · have hit := h it (.head _)
        unfold subs at h2
        obtain ⟨p, hp, rfl⟩ := List.mem_map.mp h2
        have hp2 := (List.mem_zipIdx' hp).1
        have := hs _ hc.2
        refine ⟨by rw [List.length_append, List.length_singleton]; omega, fun j hj => ?_⟩
        rcases List.mem_append.mp hj with hj | hj
        · exact hit.2 j hj
        · rw [List.mem_singleton] at hj
          omega
      · exact h it2 (.tail _ h2)
theorem gw_way {d : D} {way : List Nat} (h : gw d = some way) : way.length ≤ 6 ∧ ∀ k ∈ way, k < 300 := by
  refine sw_way (fun b hb => ?_) (fun it hit => ?_) h
  · have h2 : (hf b.1 && stG b) = true := hb
    rw [Bool.and_eq_true] at h2
    obtain ⟨d, ns, gr⟩ := b
    have e := congrArg List.length (scG_fst (ns := ns) (gr := gr) h2.1)
    rw [List.length_map] at e
    rw [e]
    exact kidsG_len h2.1
  · rw [List.mem_singleton] at hit
    rw [hit]
    exact ⟨Nat.zero_le _, fun k hk => by cases hk⟩
theorem fb_way0 {good : D → Bool} {most n : Nat} {d : D} {way : List Nat} (hm : most ≤ 300) (h : fb good most n [([], d)] = some way) : way.length ≤ 6 ∧ ∀ k ∈ way, k < 300 := fb_way hm (fun it hit => by
    rw [List.mem_singleton] at hit
    rw [hit]
    exact ⟨Nat.zero_le _, fun k hk => by cases hk⟩) h
def wayD (way : List Nat) : D := .tup (way.map fun k : Nat => .int (k : Int))
theorem way_ok {way : List Nat} (h : way.length ≤ 6 ∧ ∀ k ∈ way, k < 300) : okS (wayD way) = true ∧ szB (wayD way) ≤ 600 ∧ bdd 1 (wayD way) = true := by
  refine ⟨okS_tup fun d hd => ?_, ?_, bdd_mk (by rw [List.length_map]; omega) fun d hd => ?_⟩
  · obtain ⟨k, hk, rfl⟩ := List.mem_map.mp hd
    have := h.2 k hk
    rw [okS, decide_eq_true (by omega), decide_eq_true (by omega)]
    rfl
  · show szB (.tup _) ≤ _
    rw [szB, szBs_eq]
    have key : ∀ l : List Nat, ((l.map fun k : Nat => D.int (k : Int)).map szB).sum = 84 * l.length := by
      intro l
      induction l with
      | nil => rfl
      | cons k r ih => rw [List.map_cons, List.map_cons, List.sum_cons, ih, szB, List.length_cons]; omega
    rw [key]
    omega
  · obtain ⟨k, hk, rfl⟩ := List.mem_map.mp hd
    exact bi
end K6
set_option maxHeartbeats 4000001
namespace K6
open L2 PySem PySem.Spec PyProof.Rows
structure ClG (P : Program) (w : World) (K : PySem.W.Frag) (mg : Str → Option Value) (base : Heap) (k : Nat) (x : Str) (sp : Sp) : Prop where
  ex : ∃ (f : Addr) (fd : FuncData) (ps : List Str), (∀ vs H Q E, sp vs H Q E → vs.length = ps.length) ∧
    (∀ (A : Around) (outer : List Env) (s : Shared) (H : Hp) (args : Args) (us : List Value) (vs : List V) (Q : VK) (E : XK), Room k A → A.guards = some [] → Env0 P w K mg base A outer s H → BindsTo s fd args (ps.zip us) → Vals vs us → sp vs H Q E →
      codeAny (model P w) A (.call (.ref f) args) (CR (L2.CX P w) outer P w H s Q E) s) ∧ mg x = some (.ref f) ∧ PySem.W.keepIn K (.ref f) = true ∧ Binds K fd ps []
section
variable {P : Program}
variable {w : World} {K : PySem.W.Frag} {mg : Str → Option Value} {base : Heap}
theorem Df.clG {x : Str} {st : Stmt} {N ps : List Str} {k : Nat} {sp : Sp} (F : Df K mg x st ps) (S : FnScope N ps (defScope st)) (len : ∀ vs H Q E, sp vs H Q E → vs.length = ps.length)
    (hbody : ∀ (f : Addr) (cdv : Value) (A : Around) (outer : List Env) (s : Shared) (H : Hp) (vs : List V) (Q : VK) (E : XK), PySem.W.codeIn K cdv x = true → Room k (A.deeper (envOfC x (defScope st) s.heap.objs.size f cdv)) → A.guards = some [] → sp vs H Q E →
      ∃ t, PSs (cxOf (L2.CX P w) P w K mg base N x (defScope st) f cdv A outer s H E) (defBody st) t ∧ t { nx := fun _ H' => Q .non H', rt := Q } (start N vs) H) : ClG P w K mg base (k + 1) x sp := by
  obtain ⟨f, fd, FD, m⟩ := F.ex
  have kp := FD.kp
  have b := FD.bindsN F.b
  obtain ⟨oc, od, dV, kV, doc, pm, an, cdv, ct, osl, rfl, lk, hcd, _, _⟩ := FD.ex
  exact ⟨f, _, ps, len, fun A outer s H args us vs Q E hr hg e0 hb r hsp => LamX.run_ofS lk hcd S hr e0 hb r (len _ _ _ _ hsp) fun hr' => hbody f cdv A outer s H vs Q E hcd hr' hg hsp, m, kp, b⟩
end
section
variable {X : Cx} {k j : Nat} {x : Str} {sp : Sp} {p pos : Pos} {e : Expr} {es : List Expr} {t : TA}
theorem pg (c : ClG X.prog X.w X.K X.mg X.base k x sp) (gd0 : X.A.guards = some []) (hr : Room j X.A) (hk : k ≤ j) (hg : Gl X x) (ha : PA X (e :: es) t)
    (hdb :
        (x == ("__debug__" : Str)) = false := by decide) (he : starEach (e :: es) X.env = (false, eval e X.env) :: starEach es X.env := by rfl) (hpl : (backTo pos (starEach es X.env)).any (·.1) = false := by rfl) :
    PE X (.Call (.Name x p) (e :: es) [] pos) (tCall sp [] E0 t) := by
  obtain ⟨f, fd, ps, len, run, m, kp, b⟩ := c.ex
  constructor
  intro pins s0 σ H Q I h
  apply wpAny_Call_Name_kw
  apply ld_glob I hg m _ hdb
  refine PySem.W.callWith_K (h₀ := X.base) I.ok.mod.kin kp (thn (ha.run pos pins s0 σ H _ I h) fun us s2 got => ?_) he hpl
  obtain ⟨vs, H2, I2, rv, q2⟩ := got
  have q3 : sp vs H2 Q E0 := by rw [← List.append_nil vs]; exact q2
  have ln : us.length = ps.length := rv.length ▸ len _ _ _ _ q3
  have bd := b s2 us I2.kIn (by rw [List.append_nil]; exact ln)
  rw [List.append_nil] at bd
  refine ⟨I2.kIn, wpAny_call (codeAny_mono (run X.A X.stack s2 H2 ⟨us, []⟩ us vs Q E0 (hr.mono hk) gd0 I2.env0 bd rv q3) ?_)⟩
  rintro (ev | fl) s3 hq
  · exact passL pins σ H2 s2 ev s3 I2 hq
  · cases fl with
    | ret u => exact I2.after hq
    | _ => exact hq.elim
theorem _root_.L2.Room.u60 {k : Nat} {A : Around} (r : Room k A) : A.units + 66 < cLine := by
  have := r.un
  omega
def shw (d : D) : Str := (py d).shown
def rRepr : List V → Hp → VK → Prop := fun xs H Q => ∃ (v : V) (d : D), xs = [v] ∧ Rep H v d ∧ okS d = true ∧ bdd 30 d = true ∧ szB d ≤ 10000000 ∧ Q (.str (shw d)) H
theorem call_reprD (gd0 : X.A.guards = some []) (hu : X.A.units + 66 < cLine) : CallR X (.builtin "repr") rRepr := by
  (intro pins s σ H xs us Q I r h)
  obtain ⟨v, d, rfl, rd, ho, hb, hz, q⟩ := h
  (obtain ⟨u, rfl, ru⟩ := vals1 r)
  obtain ⟨s1, s2, s3, s4⟩ := py_show d ho
  have dp := py_dep d 30 hb
  have hs : (py d).shown.length ≤ sizeLine := by
    have e : (10000000 : Nat) ≤ sizeLine := by decide
    omega
  obtain ⟨as, rr⟩ := Dp.reads I (py d) v u (dp_py d v rd ho) ru
  cases d with
  | int i =>
    cases rd
    obtain ⟨t, rfl⟩ := ru
    rw [py] at s1
    exact P.repr_of_int (by rw [PyData.showable, decide_eq_true_eq] at s1; exact s1) ⟨.str _, H, I.tok _, ⟨_, rfl⟩, by unfold shw at q; rw [py, PyData.shown] at q; exact q⟩
  | str l =>
    cases rd
    obtain ⟨t, rfl⟩ := ru
    unfold shw at q
    rw [py, PyData.shown] at q hs
    exact P.repr_of_str ⟨.str _, H, I.tok _, ⟨_, rfl⟩, q⟩ hs
  | tup ds =>
    obtain ⟨a, xs, rfl, _, _⟩ := rd.tup_inv
    (obtain rfl : u = Value.ref a := ru)
    exact repr_of_reads' rr s1 (PyData.noDict_hsm s2) gd0 (by omega) (fun _ _ e => e) (fun h' u tk hk => ⟨.str _, H, I.kept hk, ⟨_, rfl⟩, q⟩) hs
  | bl b => rw [okS] at ho; cases ho
  | non => rw [okS] at ho; cases ho
  | oth => rw [okS] at ho; cases ho
def rEqG : R2 := fun x y H Q => ∃ d e, Rep H x d ∧ Rep H y e ∧ okS d = true ∧ okS e = true ∧ bdd 30 d = true ∧ bdd 30 e = true ∧ ∀ b : Bool, (b = true ↔ d = e) → Q (.bl b) H
theorem op_eqG (hu : X.A.units + 66 < cLine) : OpR X (compareOp .Eq) rEqG := by
  (intro pins s σ H x y v u Q I rx ry h)
  obtain ⟨d, e, rd, re, od, oe, bd, be, q⟩ := h
  have sh : ∀ d, okS d = true → bdd 30 d = true → SeqAt.shaped (py d) = true := fun d od bd => by
    have h1 := (py_show d od).2.2.1
    have h2 := py_dep d 30 bd
    show (_ && _) = true
    rw [h1, decide_eq_true (by omega)]
    rfl
  exact op_eqD (by omega) pins s σ H x y v u Q I rx ry ⟨py d, py e, dp_py d x rd od, dp_py e y re oe, sh d od bd, sh e oe be, q _ (py_eqv d e od oe)⟩
end
end K6
set_option maxHeartbeats 4000001
namespace K6
open L2 PySem PySem.Spec PyProof.Rows
def ExK (cls : Value) (d : Option Addr) (a : Addr) : HO := .ext fun h => ∃ (oe : Obj) (vs : Array Value), h.get? a = some oe ∧ Zc cls d oe ∧ oe.data = .fields vs
theorem exk_ok {P : Program} {w : World} {H : Hp} {h : Heap} {a : Addr} {cls : Value} {d : Option Addr} {oe : Obj} {vs : Array Value} (e : h.get? a = some oe) (z : Zc cls d oe) (v : oe.data = .fields vs) : ObjOk P w H h a (ExK cls d a) :=
  ⟨⟨oe, vs, e, z, v⟩, ⟨oe, e⟩, fun _ _ ⟨o, us, p, q, r⟩ st => ⟨o, us, st o p, q, r⟩⟩
section
variable {X : Cx} {pins : List (Addr × Obj)} {σ : L2.St} {H : Hp} {s s' sI : Shared} {B : Heap} {a : Addr} {o : HO}
theorem land_kept (I : Inv X pins σ H sI) (nb : ∀ b o, sI.heap.get? b = some o → b ∉ frs X.stack → B.get? b = some o) (st : B.StaysIn s'.heap) (up : sI.heap.UpToSlots s'.heap) (os : s'.os = sI.os) (ag : AllBare s'.gens) (na : H a = none) (fr : sI.heap.get? a = none)
    (new : ObjOk X.prog X.w (upd H a o) s'.heap a o) : Inv X pins σ (upd H a o) s' := by
  have J := I.landed nb st up os ag
  have ne : ∀ b u, sI.heap.get? b = some u → b ≠ a := fun b u e z => by rw [z, fr] at e; cases e
  have keepN : ∀ b, H b = none → b ≠ a → upd H a o b = none := fun b n m => by rw [upd_ne m]; exact n
  refine ⟨J.ok, J.os, J.bare, ⟨J.base.keep, J.base.slot, fun b u e n hx => ?_, J.base.there, fun b xs e => up_ne (J.base.tups b xs e) na, fun b u xs e => up_ne (J.base.frzs b u xs e) na, fun b ps e => ?_⟩, J.loc, J.cell, ?_, fun y c e => ?_, fun p hp => ?_, J.hok.laidN (fun _ _ e => e) na new, J.len⟩
  · obtain ⟨u2, e2⟩ := I.base.there b u e hx
    exact keepN b (J.base.free b u e n hx) (ne b u2 e2)
  · obtain ⟨more, e2⟩ := J.base.tbls b ps e
    exact ⟨more, up_ne e2 na⟩
  · obtain ⟨m, ⟨u, _, _, e, _⟩, _⟩ := I.loc
    exact keepN _ J.free (ne _ u e)
  · obtain ⟨v, u, e2, _⟩ := I.cell y c e
    exact keepN c (J.freeC y c e) (ne c u e2)
  · obtain ⟨e1, n1, rest⟩ := J.pin p hp
    obtain ⟨e2, _⟩ := I.pin p hp
    exact ⟨e1, keepN _ n1 (ne _ _ e2), rest⟩
theorem fly_keep {l : List Env} {e : Addr} {Z : Obj → Prop} {h h' : Heap} (f : HandSPX.FlyingZ B l e Z h) (k : ∀ b o, h.get? b = some o → h'.get? b = some o) : HandSPX.FlyingZ B l e Z h' := by
  obtain ⟨f1, f2, f3, oe, vs, T, oT, ts, he, hz, hd, h1, hnT, hTe, hT, hdT, h3⟩ := f
  exact ⟨fun b o q => k b o (f1 b o q), f2, f3.of_keeps fun b o q _ => ⟨o, k b o q, rfl⟩, oe, vs, T, oT, ts, k _ _ he, hz, hd, h1, hnT, hTe, k _ _ hT, hdT, h3⟩
end
inductive NmsA (X : Cx) : List Expr → List Value → Prop
  | nil : NmsA X [] []
  | cons {x : Str} {c : Value} {p : Pos} {es : List Expr} {cs : List Value} (hg : Gl X x) (hd : (x == ("__debug__" : Str)) = false) (hm : X.mg x = some c) (r : NmsA X es cs) : NmsA X (.Name x p :: es) (c :: cs)
theorem NmsA.suite {X : Cx} {es : List Expr} {cs : List Value} {a : Addr} {pn : List (Addr × Obj)} (n : NmsA X es cs) : NmsA (X.suite a pn) es cs := by
  induction n with
  | nil => exact .nil
  | cons hg hd hm _ ih => exact .cons hg hd hm ih
theorem NmsA.run {X : Cx} {es : List Expr} {cs : List Value} (n : NmsA X es cs) {pins : List (Addr × Obj)} {σ : L2.St} {H : Hp} {s : Shared} (I : Inv X pins σ H s) {pos : Pos} {E : Value → Shared → Prop} {Q : List Value → Shared → Prop} (h : Q cs s) :
    wpAny (model X.prog X.w) X.A (spliced (backTo pos (starEach es X.env))) Q E s := by
  induction n generalizing Q with
  | nil => exact Calls.spliced_nil h
  | @cons x c p es cs hg hd hm _ ih =>
    show wpAny _ _ (spliced ((false, eval (.Name x p) X.env) :: backTo pos (starEach es X.env))) _ _ s
    exact Calls.spliced_cons (ld_glob I hg hm (ih h) hd)
section
variable {M : Model} {K : PySem.W.Frag}
open PySem.W PySem.Calls in
theorem exm8 {c1 c2 c3 c4 c5 c6 c7 c8 cls : Value} {tp e : Addr} {b1 b2 b3 b4 b5 b6 b7 b8 : Bool} {h : Heap} (X : K.In h) (LT : Looks M h (typeOf (.ref e)) cls) (hp : h.get? tp = some { cls := .type "tuple", data := .seq [c1, c2, c3, c4, c5, c6, c7, c8].toArray })
    (x1 : exmOne K cls c1 = some b1) (x2 : exmOne K cls c2 = some b2) (x3 : exmOne K cls c3 = some b3) (x4 : exmOne K cls c4 = some b4) (x5 : exmOne K cls c5 = some b5) (x6 : exmOne K cls c6 = some b6) (x7 : exmOne K cls c7 = some b7) (x8 : exmOne K cls c8 = some b8)
    (hb : b1 = true ∨ b2 = true) : Looks M h (excMatches (.ref e) (.ref tp)) true := by
  have T0 : Looks M h (isInstance (.ref tp) (.type "tuple")) true := ((Looks.ld hp).andThen .now).andThen (Looks.of_pure isSubtype_tuple_tuple)
  rintro A Q E ⟨hh, g, d, tk, os⟩ k₀ q
  (have k : ∀ b o, h.get? b = some o → hh.get? b = some o := k₀)
  obtain ⟨E1, S1⟩ := exm_cls (M := M) X x1
  obtain ⟨E2, S2⟩ := exm_cls (M := M) X x2
  have E1 := E1.keeps k; have E2 := E2.keeps k; have S1 := S1.keeps k; have S2 := S2.keeps k
  have E3 := (exm_cls (M := M) X x3).1.keeps k; have E4 := (exm_cls (M := M) X x4).1.keeps k; have E5 := (exm_cls (M := M) X x5).1.keeps k
  have E6 := (exm_cls (M := M) X x6).1.keeps k; have E7 := (exm_cls (M := M) X x7).1.keeps k; have E8 := (exm_cls (M := M) X x8).1.keeps k
  have TT := LT.keeps k; have T1 := T0.keeps k; have hq := k _ _ hp
  unfold excMatches
  apply wpAny_bind (T1.at _)
  dsimp only
  rw [if_pos rfl]
  first
    | apply wpAny_bind (wpAny_seqItems hq rfl _)
    | apply wpAny_bind (wpAny_bind (wpAny_seqItems hq rfl (wpAny_pure _)))
  (dsimp only [Option.getD_some, Option.getD])
  cases b1 with
  | true => repeat (first | simp only [List.forIn_cons, List.forIn_nil, Bool.not_true, Bool.false_eq_true, if_false, if_true] | lk)
            exact q
  | false =>
    rcases hb with hb | hb
    · cases hb
    · subst hb
      repeat (first | simp only [List.forIn_cons, List.forIn_nil, Bool.not_true, Bool.false_eq_true, if_false, if_true] | lk)
      exact q
end
end K6
set_option maxHeartbeats 4000001
namespace K6
open L2 PySem PySem.Spec PyProof.Rows
def Hit8 (K : PySem.W.Frag) (cls : Value) (cs : List Value) : Prop := ∃ c1 c2 c3 c4 c5 c6 c7 c8 b1 b2 b3 b4 b5 b6 b7 b8, cs = [c1, c2, c3, c4, c5, c6, c7, c8] ∧ PySem.W.exmOne K cls c1 = some b1 ∧ PySem.W.exmOne K cls c2 = some b2 ∧ PySem.W.exmOne K cls c3 = some b3 ∧
  PySem.W.exmOne K cls c4 = some b4 ∧ PySem.W.exmOne K cls c5 = some b5 ∧ PySem.W.exmOne K cls c6 = some b6 ∧ PySem.W.exmOne K cls c7 = some b7 ∧ PySem.W.exmOne K cls c8 = some b8 ∧ (b1 = true ∨ b2 = true)
def backD (i : Nat) (D : Ends) : Ends := { nx := fun σ' H' => D.nx (σ'.set i none) H', rt := D.rt, bk := fun σ' H' => D.bk (σ'.set i none) H', ct := fun σ' H' => D.ct (σ'.set i none) H' }
def wKeep (K : PySem.W.Frag) (len : Nat) (cs : List Value) (i : Nat) (ts : Addr → TS) (D : Ends) : WX := fun cls d σ H => σ.length = len → Hit8 K cls cs ∧ ∀ a, H a = none → ts a (backD i D) (σ.set i (some (.ref a))) (upd H a (ExK cls d a))
section
variable {X : Cx} {pins pn' : List (Addr × Obj)} {σ : L2.St} {H : Hp} {s : Shared} {a : Addr}
theorem suite2 (I : Inv X pins σ H s) : Inv (X.suite a (X.pn ++ pins)) [] σ H s :=
  ⟨I.ok.suite _ _, I.os, I.bare, I.base, I.loc, I.cell, I.free, I.freeC, fun p hp => I.pin p (by rw [List.append_nil] at hp; exact hp), I.hok, I.len⟩
theorem unsuite2 (I : Inv (X.suite a (X.pn ++ pins)) pn' σ H s) (ok : X.Ok) : Inv X pins σ H s := ⟨ok, I.os, I.bare, I.base, I.loc, I.cell, I.free, I.freeC, fun p hp => I.pin p (List.mem_append_left _ hp), I.hok, I.len⟩
end
section
variable {X : Cx} {n : Str} {cs : List Value} {es : List Expr} {i kk : Nat} {body suite : List Stmt} {b₀ : Stmt} {np pos pos' : Pos} {tb : WX → TS} {ts : Addr → TS}
theorem ps_try_keep (hs : X.stack = X.env :: X.outer) (hf : X.env.frame = some X.env.locals) (hN : X.N.Nodup) (hi : X.N[i]? = some n) (hln : X.env.kindOf n = some .local) (hc : NmsA X es cs)
    (hb : ∀
        (W : WX) (pn : List (Addr × Obj)) (xe : Value → Shared → Prop), Takes (X.tr pn xe) W → PassesOwn (model X.prog X.w) X.A X.env xe → PSs (X.tr pn xe) body (tb W))
    (hsu : ∀ (a : Addr) (pn : List (Addr × Obj)), PSs (X.suite a pn) (b₀ :: suite) (ts a)) :
    PS X (.Try body [.ExceptHandler (some (.Tuple es kk np)) (some n) (b₀ :: suite) pos'] [] [] pos) (fun D σ H => tb (wKeep X.K X.N.length cs i ts D) D σ H) := by
  constructor
  intro pins s σ H D I h
  have ok := I.ok
  have hfr : X.A.frames = some (X.env :: X.outer) := ok.frames.trans (by rw [hs])
  (have hloc : Loc X.env.scope n := .inl hln)
  apply wpAny_Try_except
  refine wpAny_mono ((hb (wKeep X.K X.N.length cs i ts D) (X.pn ++ pins) (fun e t1 => wpAny (model X.prog X.w) X.A (noteFrame e X.env) (fun _ t2 => wpAny (model X.prog X.w) X.A (setFlight e none)
    (fun _ t3 => wpAny (model X.prog X.w) X.A (handleBy e X.env [.ExceptHandler (some (.Tuple es kk np)) (some n) (b₀ :: suite) pos']) (SP X pins D) X.xe t3) X.xe t2) X.xe t1) (fun u s' xx => ?_) PassesOwn.looking).run [] s σ H D (I.toTry _) h) (fun f s1 q1 => ?_) (fun _ _ z => z)
  · obtain ⟨a, B, sI, pins', σ', H', cls, d, rfl, J', nb, up, sky, na, os, ag, wk⟩ := xx
    (have J : Inv X pins σ' H' sI := J'.ofTry ok)
    obtain ⟨hit, hq⟩ := wk J.len
    have sky2 : Sky B (X.env :: X.outer) a (Zc cls d) X.env.locals s'.heap := hs ▸ sky
    (show wpAny (model X.prog X.w) X.A (noteFrame (.ref a) X.env) _ _ _)
    refine Sky.land Zc.steady hfr hf sky2 fun h3 fl3 up3 => ?_
    (obtain ⟨oe3, vs3, he3, hz3, hd3⟩ := fl3.there)
    have nfr : a ∉ frs (X.env :: X.outer) := fun hm => by
      obtain ⟨_, o2, e2, hn2⟩ := fl3.2.2.1.mem hm
      rw [he3] at e2
      cases e2
      exact hn2 _ hd3
    have a0 : sI.heap.get? a = none := by
      cases e : sI.heap.get? a with
      | none => rfl
      | some u =>
        have e2 := nb a u e (by rw [hs]; exact nfr)
        rw [fl3.2.1] at e2
        cases e2
    have J3 : Inv X pins σ' (upd H' a (ExK cls d a)) { s' with heap := h3 } := land_kept J nb fl3.1 (up.trans up3) os ag na a0 (exk_ok he3 hz3 hd3)
    have S3 := suite2 (a := a) J3
    obtain ⟨c1, c2, c3, c4, c5, c6, c7, c8, b1, b2, b3, b4, b5, b6, b7, b8, rfl, x1, x2, x3, x4, x5, x6, x7, x8, hb12⟩ := hit
    refine wpAny_handleBy_cons (codeAny_handlers_test (wpAny_Tuple_spliced ((NmsA.suite hc).run S3 ⟨lsz, ?_⟩))) (by intro q; cases q)
    have k3 : ∀ b o, h3.get? b = some o → (h3.push { cls := .type "tuple", data := .seq [c1, c2, c3, c4, c5, c6, c7, c8].toArray }).get? b = some o := fun b o e => Heap.get?_push_of_some _ e
    have LT : PySem.W.Looks (model X.prog X.w) (h3.push { cls := .type "tuple", data := .seq [c1, c2, c3, c4, c5, c6, c7, c8].toArray }) (typeOf (.ref a)) cls := fun A Q E s k q => wpAny_typeOf_ref (k _ _ (k3 _ _ he3)) (by rw [hz3.1]; exact q)
    refine (exm8 (J3.kIn.keeps k3) LT (Heap.get?_push_size h3 rfl) x1 x2 x3 x4 x5 x6 x7 x8 hb12).here ?_
    refine codeAny_handlers_suite_as (HandSPX.lands_againZ (fly_keep fl3 k3) fun h4 fl4 up4 => ?_)
    (obtain ⟨oe4, vs4, he4, hz4, hd4⟩ := fl4.there)
    have upP : h3.UpToSlots (h3.push { cls := .type "tuple", data := .seq [c1, c2, c3, c4, c5, c6, c7, c8].toArray }) := fun b o e _ => ⟨o.slots, k3 b o e⟩
    have J4 : Inv X pins σ' (upd H' a (ExK cls d a)) { s' with heap := h4 } := land_kept J nb fl4.1 (((up.trans up3).trans upP).trans up4) os ag na a0 (exk_ok he4 hz4 hd4)
    refine store_ok (X := X.suite a (X.pn ++ pins)) (v := .ref a) (suite2 J4) hN hi hloc rfl (fun s5 S5 => ?_) (.inr hln)
    refine wpAny_mono ((hsu a (X.pn ++ pins)).run [] s5 _ _ _ S5 (hq a na)) (fun f s6 q6 => ?_) (fun _ _ z => z.elim)
    have gone : ∀ {σ6 : L2.St} {H6 : Hp} {R : Shared → Prop}, Inv (X.suite a (X.pn ++ pins)) [] σ6 H6 s6 → (∀ s7, Inv X pins (σ6.set i none) H6 s7 → R s7) →
        wpAny (model X.prog X.w) X.A (do bindName X.env n .none; unbindBehindTheSuite X.env n pos') (fun _ s7 => R s7) X.xe s6 := fun {σ6 H6 R} S6 hR => gone_ok (unsuite2 S6 ok) hN hi hln hR
    cases f with
    | next => obtain ⟨σ6, H6, S6, q7⟩ := q6; exact gone S6 fun s7 J7 => ⟨_, _, J7, q7⟩
    | brk => obtain ⟨σ6, H6, S6, q7⟩ := q6; exact gone S6 fun s7 J7 => ⟨_, _, J7, q7⟩
    | cont => obtain ⟨σ6, H6, S6, q7⟩ := q6; exact gone S6 fun s7 J7 => ⟨_, _, J7, q7⟩
    | ret u => obtain ⟨v6, σ6, H6, S6, r6, q7⟩ := q6; exact gone S6 fun s7 J7 => ⟨_, _, _, J7, r6, q7⟩
  · cases f with
    | next => obtain ⟨σ2, H2, J2, q⟩ := q1; exact wpAny_execs_nil ⟨σ2, H2, J2.ofTry ok, q⟩
    | brk => obtain ⟨σ2, H2, J2, q⟩ := q1; exact ⟨σ2, H2, J2.ofTry ok, q⟩
    | cont => obtain ⟨σ2, H2, J2, q⟩ := q1; exact ⟨σ2, H2, J2.ofTry ok, q⟩
    | ret u => obtain ⟨v, σ2, H2, J2, r, q⟩ := q1; exact ⟨v, σ2, H2, J2.ofTry ok, r, q⟩
end
structure XsC (K : PySem.W.Frag) (C : Addr) : Prop where
  cl : (PySem.W.clsIn K C).isSome = true
  ga : (PySem.W.findIn K (.ref C) "__getattribute__") = some (some (.builtin "BaseException.__getattribute__"))
  gg : (PySem.W.findIn K (.ref C) "__getattr__") = some none
  exC : (PySem.W.subIn K (.ref C) (.type "BaseException")) = some true
  hd : (PySem.W.hasDictIn K C) = true
  ha : (PySem.W.findIn K (.ref C) "__class__") = some (some (.builtin "object.__class__"))
  hn : (PySem.W.specialIn K (.builtin "object.__class__") "__get__") = some (some (.builtin "getset_descriptor.__get__"))
  ht : (PySem.W.takesIn K (.builtin "object.__class__")) = some true
  hm : (PySem.W.mroIn K C (.type "object")) = some true
section
variable {X : Cx}
variable {pins : List (Addr × Obj)} {σ : L2.St} {H : Hp} {s : Shared}
theorem exk_inst {a C dd : Addr} {fs : List (Str × V)} (I : Inv X pins σ H s) (e : H a = some (ExK (.ref C) (some dd) a)) (ed : H dd = some (.xd fs)) :
    ∃ (oe od : Obj) (mA : Str → Option Value), PySem.W.InstAt s.heap a oe C (some od) ∧ (∀ x, PySem.W.lookIn x od = some (mA x)) ∧ ∀ f, RelO (fs.lookup f) (mA f) := by
  obtain ⟨⟨oe, vs, ea, hz, hd⟩, _, _⟩ : ObjOk X.prog X.w H s.heap a (ExK (.ref C) (some dd) a) := I.hok a _ e
  obtain ⟨mA, hns, hr⟩ : ObjOk X.prog X.w H s.heap dd (.xd fs) := I.hok dd _ ed
  (obtain ⟨od, ho, hl⟩ := lookIn_ns hns)
  exact ⟨oe, od, mA, ⟨ea, hz.1, by unfold PySem.W.notCls; rw [hd] <;> rfl, by rw [hz.2]; exact ho⟩, hl, hr⟩
def rIsX (K : PySem.W.Frag) : List V → Hp → VK → Prop := fun xs H Q => ∃ (a C dd : Addr) (fs : List (Str × V)) (c : V) (cv : Value) (b : Bool), xs = [.ref a, c] ∧ H a = some (ExK (.ref C) (some dd) a) ∧ H dd = some (.xd fs) ∧ XsC K C ∧ (∀ u, RelV c u → u = cv) ∧ PySem.W.kitOne K (.ref C) cv = some b ∧ Q (.bl b) H
theorem call_isX (K : PySem.W.Frag) (hK : X.K = K := by rfl) : CallR X (.builtin "isinstance") (rIsX K) := by
  subst hK
  (intro pins s σ H xs us Q I r h)
  obtain ⟨a, C, dd, fs, c, cv, b, rfl, ea, ed, T, hcv, e, q⟩ := h
  obtain ⟨u, w, rfl, ru, rw'⟩ := vals2 r
  (obtain rfl : u = Value.ref a := ru)
  have ec := hcv _ rw'
  subst ec
  obtain ⟨oe, od, mA, J, _, _⟩ := exk_inst I ea ed
  exact PySem.W.kia_one (PySem.W.kitx_exc T.cl T.ga T.gg T.exC T.ha T.hn T.ht T.hm) I.kIn J e (fun z => nomatch z) fun tk => ⟨.bl b, H, I.kept (t' := tk) fun _ _ z => z, rfl, q⟩
def tXfK (K : PySem.W.Frag) (f : Str) (te : TE) : TE := fun σ H Q => te σ H fun x H1 => ∃ (a C dd : Addr) (fs : List (Str × V)) (v : V), x = .ref a ∧ H1 a = some (ExK (.ref C) (some dd) a) ∧ H1 dd = some (.xd fs) ∧ XsC K C ∧ PySem.W.findIn K (.ref C) f = some none ∧ fs.lookup f = some v ∧ Q v H1
theorem pe_xfK (K : PySem.W.Frag) {e : Expr} {te : TE} {pos : Pos} {n : Str} (he : PE X e te) (hb : attributeBase e n X.env (eval e X.env) = eval e X.env := by rfl) (hK : X.K = K := by rfl) : PE X (.Attribute e n pos) (tXfK K n te) := by
  subst hK
  refine ⟨fun pins s σ H Q I h => attr_of hb (thn (he.run pins s σ H _ I h) fun u s1 hh => ?_)⟩
  obtain ⟨x, H1, I1, rx, a, C, dd, fs, v, rfl, ea, ed, T, hno, l, q⟩ := hh
  (obtain rfl : u = Value.ref a := rx)
  obtain ⟨oe, od, mA, J, hl, hr⟩ := exk_inst I1 ea ed
  (obtain ⟨u, hu, ru⟩ := RelO.some_of (v := v) (o := mA n) (by rw [← l]; exact hr n))
  exact HandSPX.exc_get I1.kIn J T.ga T.gg T.exC (PySem.W.findObj_own T.hd hno rfl (by rw [hl, hu])) (handed_of ru) ⟨v, H1, I1.tok _, ru, q⟩
end
end K6
set_option maxHeartbeats 8000000
namespace K6
open L2 PySem PySem.Spec PyProof.Rows
theorem gcl {mg : Str → Option Value} {x : Str} {c : Addr} (h : mg x = some (.ref c)) : ∃ u, mg x = some u ∧ RelV (.ref c) u := ⟨_, h, rfl⟩
structure Rz (K : PySem.W.Frag) (mg : Str → Option Value) (C : Nat → Addr) : Prop where
  m0 : mg "BadThing" = some (.ref (C 0))
  m1 : mg "BadGenerator" = some (.ref (C 1))
  m2 : mg "BadText" = some (.ref (C 2))
  m3 : mg "BadTape" = some (.ref (C 3))
  m4 : mg "BadTable" = some (.ref (C 4))
  m5 : mg "BadQuestion" = some (.ref (C 5))
  m6 : mg "TooMany" = some (.ref (C 6))
  m7 : mg "NeverComes" = some (.ref (C 7))
  x0 : XsC K (C 0)
  p0 : PySem.W.findIn K (.ref (C 0)) "place" = some none
  h00 : PySem.W.exmOne K (.ref (C 0)) (.ref (C 0)) = some true
  i00 : PySem.W.kitOne K (.ref (C 0)) (.ref (C 0)) = some true
  h01 : PySem.W.exmOne K (.ref (C 0)) (.ref (C 1)) = some false
  i01 : PySem.W.kitOne K (.ref (C 0)) (.ref (C 1)) = some false
  h02 : PySem.W.exmOne K (.ref (C 0)) (.ref (C 2)) = some false
  i02 : PySem.W.kitOne K (.ref (C 0)) (.ref (C 2)) = some false
  h03 : PySem.W.exmOne K (.ref (C 0)) (.ref (C 3)) = some false
  i03 : PySem.W.kitOne K (.ref (C 0)) (.ref (C 3)) = some false
  h04 : PySem.W.exmOne K (.ref (C 0)) (.ref (C 4)) = some false
  i04 : PySem.W.kitOne K (.ref (C 0)) (.ref (C 4)) = some false
  h05 : PySem.W.exmOne K (.ref (C 0)) (.ref (C 5)) = some false
  i05 : PySem.W.kitOne K (.ref (C 0)) (.ref (C 5)) = some false
  h06 : PySem.W.exmOne K (.ref (C 0)) (.ref (C 6)) = some false
  i06 : PySem.W.kitOne K (.ref (C 0)) (.ref (C 6)) = some false
  h07 : PySem.W.exmOne K (.ref (C 0)) (.ref (C 7)) = some false
  i07 : PySem.W.kitOne K (.ref (C 0)) (.ref (C 7)) = some false
  b0O : PySem.W.kitOne K (.ref (C 0)) (.type "OverflowError") = some false
  b0L : PySem.W.kitOne K (.ref (C 0)) (.type "LookupError") = some false
  b0V : PySem.W.kitOne K (.ref (C 0)) (.type "ValueError") = some true
  x1 : XsC K (C 1)
  p1 : PySem.W.findIn K (.ref (C 1)) "place" = some none
  h10 : PySem.W.exmOne K (.ref (C 1)) (.ref (C 0)) = some false
  i10 : PySem.W.kitOne K (.ref (C 1)) (.ref (C 0)) = some false
  h11 : PySem.W.exmOne K (.ref (C 1)) (.ref (C 1)) = some true
  i11 : PySem.W.kitOne K (.ref (C 1)) (.ref (C 1)) = some true
  h12 : PySem.W.exmOne K (.ref (C 1)) (.ref (C 2)) = some false
  i12 : PySem.W.kitOne K (.ref (C 1)) (.ref (C 2)) = some false
  h13 : PySem.W.exmOne K (.ref (C 1)) (.ref (C 3)) = some false
  i13 : PySem.W.kitOne K (.ref (C 1)) (.ref (C 3)) = some false
  h14 : PySem.W.exmOne K (.ref (C 1)) (.ref (C 4)) = some false
  i14 : PySem.W.kitOne K (.ref (C 1)) (.ref (C 4)) = some false
  h15 : PySem.W.exmOne K (.ref (C 1)) (.ref (C 5)) = some false
  i15 : PySem.W.kitOne K (.ref (C 1)) (.ref (C 5)) = some false
  h16 : PySem.W.exmOne K (.ref (C 1)) (.ref (C 6)) = some false
  i16 : PySem.W.kitOne K (.ref (C 1)) (.ref (C 6)) = some false
  h17 : PySem.W.exmOne K (.ref (C 1)) (.ref (C 7)) = some false
  i17 : PySem.W.kitOne K (.ref (C 1)) (.ref (C 7)) = some false
  b1O : PySem.W.kitOne K (.ref (C 1)) (.type "OverflowError") = some false
  b1L : PySem.W.kitOne K (.ref (C 1)) (.type "LookupError") = some false
  b1V : PySem.W.kitOne K (.ref (C 1)) (.type "ValueError") = some true
def XRef (C : Addr) (wd : String) (Q : VK) : XK := fun cls d H' => ∃ (dd : Addr) (r : V) (way : List Nat), cls = .ref C ∧ d = some dd ∧ H' dd = some (.xd [("place", r)]) ∧ WayR H' r way ∧ (way.length ≤ 6 ∧ ∀ k ∈ way, k < 300) ∧ ∀ H'', Same H' H'' → Q (.str (Str.ofString wd ++ Str.ofString " " ++ shw (wayD way))) H''
def TRef (C : Addr) (wd : String) : (XK → Hp → VK → Prop) → Hp → VK → Prop := fun tl H Q => ∀ Q', tl (XRef C wd Q) H Q'
theorem way_rep {H : Hp} {v : V} {way : List Nat} (h : WayR H v way) : Rep H v (wayD way) := by
  obtain ⟨a, rfl, e⟩ := h
  refine .tup e (by rw [List.length_map, List.length_map]) (fun i x d h1 h2 => ?_)
  rw [List.getElem?_map] at h1 h2
  cases q : way[i]? with
  | none => rw [q] at h1; cases h1
  | some k =>
    rw [q] at h1 h2
    cases h1
    cases h2
    exact .int _
theorem shw_len {d : D} (h : okS d = true) : (shw d).length ≤ szB d := by
  have := (py_show d h).2.2.2
  unfold shw
  omega
theorem try_body {X : Cx} {W : WX} {e : Expr} {pos : Pos} {f c' : Addr} {q : Str} {tl : XK → Hp → VK → Prop} (act : ∀ (E : XK), Takes X W → (∀ cls d σ' H', E cls d H' → W cls d σ' H') → PE X e (fun σZ HZ Q => σZ[0]? = some (some (.ref f)) ∧ HZ c' = some (LamX.CodeO c' q) ∧ tl E HZ Q)) (tk : Takes X W)
    (hs : swapsWith e none pos.line X.env = pure false := by rfl) :
    PSs X [.Expr e pos] (fun D σ H => ∃ Ech : XK, (∀ cls d σ' H', Ech cls d H' → W cls d σ' H') ∧ σ[0]? = some (some (.ref f)) ∧ H c' = some (LamX.CodeO c' q) ∧ tl Ech H (fun _ H' => D.nx σ H')) := by
  (refine ⟨fun pins s σ H D I h => ?_⟩)
  obtain ⟨Ech, hW, h1, h2, h3⟩ := h
  exact (pss_one (ps_expr (act Ech tk hW) hs)).run pins s σ H D I ⟨h1, h2, h3⟩
abbrev s__law_refused : Stmt := top 117
abbrev N__law_refused : List Str := ["_law_deed", "_law_caught", "error", "_law_told", "_law_bases"]
theorem sc__law_refused : FnScope N__law_refused ["_law_deed"] (defScope s__law_refused) := ⟨rfl, rfl, rfl, by decide +kernel, rfl, by decide +kernel, by decide +kernel⟩
section
variable {X : Cx} {mg : Str → Option Value} {C : Nat → Addr}
theorem refused0 (hmg : X.mg = mg) (T : Tx mg) (Z : Rz X.K mg C) {k : Nat} (hr0 : Room (k + 1) X.A) (hg : X.A.guards = some []) {g : Addr} {cdg : Value} {q : Str} :
    LamX.GivesTo X N__law_refused "_law_refused" (defScope s__law_refused) g cdg (defBody s__law_refused) "_law_deed" q (TRef (C 0) "thing") := by
  subst hmg
  intro f c' s H Q tl act hc h
  have nd := sc__law_refused.nd
  have hr : Room k (X.A.deeper (envOfC "_law_refused" (defScope s__law_refused) s.heap.objs.size g cdg)) := hr0.deeper _
  refine ⟨_, (pss_cons (pset 1 nd pe_non)
    (pss_cons (ps_try_keep (i := 2) rfl rfl nd rfl rfl (NmsA.cons rfl rfl Z.m0 (NmsA.cons rfl rfl Z.m1 (NmsA.cons rfl rfl Z.m2 (NmsA.cons rfl rfl Z.m3 (NmsA.cons rfl rfl Z.m4 (NmsA.cons rfl rfl Z.m5 (NmsA.cons rfl rfl Z.m6 (NmsA.cons rfl rfl Z.m7 NmsA.nil)))))))) (fun W pn xe tk _ => try_body (fun E tk1 hW => act W pn xe E _ _ tk1 hW) tk) (fun a pn => pss_one (pset 1 nd (pv 2))))
    (pss_cons (pset 3 nd (pe_op op_cat (pe_op op_rep (pe_lst (pa_cons pe_str pa_nil)) (pe_callTy call_int1 rfl T.n_int bt_int (pa_cons (pe_callB (call_isX X.K) rfl T.n_isinstance bb_isinstance (pa_cons (pv 1) (pa_cons (C8.pe_gc rfl (gcl Z.m0)) pa_nil))) pa_nil))) (pe_op op_rep (pe_lst (pa_cons pe_str pa_nil)) (pe_callTy call_int1 rfl T.n_int bt_int (pa_cons (pe_callB (call_isX X.K) rfl T.n_isinstance bb_isinstance (pa_cons (pv 1) (pa_cons (C8.pe_gc rfl (gcl Z.m1)) pa_nil))) pa_nil)))))
    (pss_cons (pset 3 nd (pe_op op_cat (pe_op op_cat (pv 3) (pe_op op_rep (pe_lst (pa_cons pe_str pa_nil)) (pe_callTy call_int1 rfl T.n_int bt_int (pa_cons (pe_callB (call_isX X.K) rfl T.n_isinstance bb_isinstance (pa_cons (pv 1) (pa_cons (C8.pe_gc rfl (gcl Z.m2)) pa_nil))) pa_nil)))) (pe_op op_rep (pe_lst (pa_cons pe_str pa_nil)) (pe_callTy call_int1 rfl T.n_int bt_int (pa_cons (pe_callB (call_isX X.K) rfl T.n_isinstance bb_isinstance (pa_cons (pv 1) (pa_cons (C8.pe_gc rfl (gcl Z.m3)) pa_nil))) pa_nil)))))
    (pss_cons (pset 3 nd (pe_op op_cat (pe_op op_cat (pv 3) (pe_op op_rep (pe_lst (pa_cons pe_str pa_nil)) (pe_callTy call_int1 rfl T.n_int bt_int (pa_cons (pe_callB (call_isX X.K) rfl T.n_isinstance bb_isinstance (pa_cons (pv 1) (pa_cons (C8.pe_gc rfl (gcl Z.m4)) pa_nil))) pa_nil)))) (pe_op op_rep (pe_lst (pa_cons pe_str pa_nil)) (pe_callTy call_int1 rfl T.n_int bt_int (pa_cons (pe_callB (call_isX X.K) rfl T.n_isinstance bb_isinstance (pa_cons (pv 1) (pa_cons (C8.pe_gc rfl (gcl Z.m5)) pa_nil))) pa_nil)))))
    (pss_cons (pset 3 nd (pe_op op_cat (pe_op op_cat (pv 3) (pe_op op_rep (pe_lst (pa_cons pe_str pa_nil)) (pe_callTy call_int1 rfl T.n_int bt_int (pa_cons (pe_callB (call_isX X.K) rfl T.n_isinstance bb_isinstance (pa_cons (pv 1) (pa_cons (C8.pe_gc rfl (gcl Z.m6)) pa_nil))) pa_nil)))) (pe_op op_rep (pe_lst (pa_cons pe_str pa_nil)) (pe_callTy call_int1 rfl T.n_int bt_int (pa_cons (pe_callB (call_isX X.K) rfl T.n_isinstance bb_isinstance (pa_cons (pv 1) (pa_cons (C8.pe_gc rfl (gcl Z.m7)) pa_nil))) pa_nil)))))
    (pss_cons (ps_if (PW.pt (pw_or (pt_cmpR op_isN (pv 1) pe_non (nomark _)) (pw_or1 (pt_cmpR op_ne (pe_callB (call_lenK X.K) rfl T.n_len PySem.boot_len (pa_cons (pv 3) pa_nil)) pe_int (nomark _))))) (pss_one (ps_ret (pe_ifExp (pt_cmpR op_isN (pv 1) pe_non (nomark _)) pe_str pe_str))) pss_nil)
    (pss_cons (pset 4 nd (pe_lst (pa_cons (pe_callB (call_isX X.K) rfl T.n_isinstance bb_isinstance (pa_cons (pv 1) (pa_cons (pty (n := "OverflowError") rfl T.n_OverflowError bt_OverflowError) pa_nil))) (pa_cons (pe_callB (call_isX X.K) rfl T.n_isinstance bb_isinstance (pa_cons (pv 1) (pa_cons (pty (n := "LookupError") rfl T.n_LookupError bt_LookupError) pa_nil))) (pa_cons (pe_callB (call_isX X.K) rfl T.n_isinstance bb_isinstance (pa_cons (pv 1) (pa_cons (pty (n := "ValueError") rfl T.n_ValueError bt_ValueError) pa_nil))) pa_nil)))))
    (pss_cons (ps_if (pt_cmpR (op_neDK X.K hr) (pv 4) (pe_lst (pa_cons (pe_cmpR op_eq (pe_ix (ix_listK X.K) (pv 3) pe_int (fun _ _ => rfl)) pe_str (nomark _)) (pa_cons (pe_cmpR op_eq (pe_ix (ix_listK X.K) (pv 3) pe_int (fun _ _ => rfl)) pe_str (nomark _)) (pa_cons (pe_cmpR (op_notInK X.K) (pe_ix (ix_listK X.K) (pv 3) pe_int (fun _ _ => rfl)) (pe_tup (pa_cons pe_str (pa_cons pe_str pa_nil))) rfl) pa_nil)))) (nomark _)) (pss_one (ps_ret pe_str)) pss_nil)
    (pss_cons (ps_if (pt_cmpR (op_inK X.K) (pe_ix (ix_listK X.K) (pv 3) pe_int (fun _ _ => rfl)) (pe_tup (pa_cons pe_str (pa_cons pe_str (pa_cons pe_str (pa_cons pe_str (pa_cons pe_str pa_nil)))))) rfl) (pss_one (ps_ret (pe_op op_add_str (pe_op op_add_str (pe_ix (ix_listK X.K) (pv 3) pe_int (fun _ _ => rfl)) pe_str) (pe_callB (call_reprD hg hr.u60) rfl T.n_repr bb_repr (pa_cons (pe_xfK X.K (pv 1)) pa_nil))))) pss_nil)
    (pss_one (ps_ret (pe_ix (ix_listK X.K) (pv 3) pe_int (fun _ _ => rfl)))))))))))))), ?_⟩
  refine ⟨XRef (C 0) "thing" Q, ?_, rfl, hc, h _⟩
  rintro cls d σ' H' ⟨dd, r, way, rfl, rfl, ed0, wr0, hw, fin⟩ hl
  refine ⟨⟨_, _, _, _, _, _, _, _, _, _, _, _, _, _, _, _, rfl, Z.h00, Z.h01, Z.h02, Z.h03, Z.h04, Z.h05, Z.h06, Z.h07, by decide⟩, fun a ha => ?_⟩
  obtain ⟨x0, x1, x2, x3, x4, rfl⟩ : ∃ x0 x1 x2 x3 x4, σ' = [x0, x1, x2, x3, x4] := by
    match σ', hl with
    | [x0, x1, x2, x3, x4], _ => exact ⟨_, _, _, _, _, rfl⟩
  have ea : upd H' a (ExK (.ref (C 0)) (some dd) a) a = some (ExK (.ref (C 0)) (some dd) a) := upd_same
  have ed : upd H' a (ExK (.ref (C 0)) (some dd) a) dd = some (.xd [("place", r)]) := up_ne ed0 ha
  have sa : Same H' (upd H' a (ExK (.ref (C 0)) (some dd) a)) := (Same.refl H').new ha
  have wr := wr0.gr (.of sa)
  have sa0 := sa
  refine ⟨_, rfl, ?_⟩
  generalize upd H' a (ExK (.ref (C 0)) (some dd) a) = Ha at *
  have s0 : Same Ha Ha := Same.refl Ha
  refine ⟨lsz, fun t0 ht0 => ⟨_, rfl, a, _, dd, _, _, _, _, rfl, (s0.new ht0) _ _ ea, (s0.new ht0) _ _ ed, Z.x0, (fun u h => h), Z.i00, .inr ⟨_, rfl, t0, _, _, rfl, rfl, upd_same, by decide, by decide, lsz, fun p0 hp0 => ⟨lsz, fun t1 ht1 => ⟨_, rfl, a, _, dd, _, _, _, _, rfl, (((s0.new ht0).new hp0).new ht1) _ _ ea, (((s0.new ht0).new hp0).new ht1) _ _ ed, Z.x0, (fun u h => h), Z.i01, .inr ⟨_, rfl, t1, _, _, rfl, rfl, upd_same, by decide, by decide, lsz, fun p1 hp1 => ⟨p0, p1, _, _, rfl, rfl, (((Same.refl _).new ht1).new hp1) _ _ upd_same, upd_same, lsz, fun r0 hr0 => ?_⟩⟩⟩⟩⟩⟩⟩
  refine ⟨_, rfl, lsz, fun t2 ht2 => ⟨_, rfl, a, _, dd, _, _, _, _, rfl, ((((((s0.new ht0).new hp0).new ht1).new hp1).new hr0).new ht2) _ _ ea, ((((((s0.new ht0).new hp0).new ht1).new hp1).new hr0).new ht2) _ _ ed, Z.x0, (fun u h => h), Z.i02, .inr ⟨_, rfl, t2, _, _, rfl, rfl, upd_same, by decide, by decide, lsz, fun p2 hp2 => ⟨r0, p2, _, _, rfl, rfl, (((Same.refl _).new ht2).new hp2) _ _ upd_same, upd_same, lsz, fun c1 hc1 => ⟨lsz, fun t3 ht3 => ⟨_, rfl, a, _, dd, _, _, _, _, rfl, (((((((((s0.new ht0).new hp0).new ht1).new hp1).new hr0).new ht2).new hp2).new hc1).new ht3) _ _ ea, (((((((((s0.new ht0).new hp0).new ht1).new hp1).new hr0).new ht2).new hp2).new hc1).new ht3) _ _ ed, Z.x0, (fun u h => h), Z.i03, .inr ⟨_, rfl, t3, _, _, rfl, rfl, upd_same, by decide, by decide, lsz, fun p3 hp3 => ⟨c1, p3, _, _, rfl, rfl, (((Same.refl _).new ht3).new hp3) _ _ upd_same, upd_same, lsz, fun r1 hr1 => ?_⟩⟩⟩⟩⟩⟩⟩⟩
  refine ⟨_, rfl, lsz, fun t4 ht4 => ⟨_, rfl, a, _, dd, _, _, _, _, rfl, ((((((((((((s0.new ht0).new hp0).new ht1).new hp1).new hr0).new ht2).new hp2).new hc1).new ht3).new hp3).new hr1).new ht4) _ _ ea, ((((((((((((s0.new ht0).new hp0).new ht1).new hp1).new hr0).new ht2).new hp2).new hc1).new ht3).new hp3).new hr1).new ht4) _ _ ed, Z.x0, (fun u h => h), Z.i04, .inr ⟨_, rfl, t4, _, _, rfl, rfl, upd_same, by decide, by decide, lsz, fun p4 hp4 => ⟨r1, p4, _, _, rfl, rfl, (((Same.refl _).new ht4).new hp4) _ _ upd_same, upd_same, lsz, fun c2 hc2 => ⟨lsz, fun t5 ht5 => ⟨_, rfl, a, _, dd, _, _, _, _, rfl, (((((((((((((((s0.new ht0).new hp0).new ht1).new hp1).new hr0).new ht2).new hp2).new hc1).new ht3).new hp3).new hr1).new ht4).new hp4).new hc2).new ht5) _ _ ea, (((((((((((((((s0.new ht0).new hp0).new ht1).new hp1).new hr0).new ht2).new hp2).new hc1).new ht3).new hp3).new hr1).new ht4).new hp4).new hc2).new ht5) _ _ ed, Z.x0, (fun u h => h), Z.i05, .inr ⟨_, rfl, t5, _, _, rfl, rfl, upd_same, by decide, by decide, lsz, fun p5 hp5 => ⟨c2, p5, _, _, rfl, rfl, (((Same.refl _).new ht5).new hp5) _ _ upd_same, upd_same, lsz, fun r2 hr2 => ?_⟩⟩⟩⟩⟩⟩⟩⟩
  refine ⟨_, rfl, lsz, fun t6 ht6 => ⟨_, rfl, a, _, dd, _, _, _, _, rfl, ((((((((((((((((((s0.new ht0).new hp0).new ht1).new hp1).new hr0).new ht2).new hp2).new hc1).new ht3).new hp3).new hr1).new ht4).new hp4).new hc2).new ht5).new hp5).new hr2).new ht6) _ _ ea, ((((((((((((((((((s0.new ht0).new hp0).new ht1).new hp1).new hr0).new ht2).new hp2).new hc1).new ht3).new hp3).new hr1).new ht4).new hp4).new hc2).new ht5).new hp5).new hr2).new ht6) _ _ ed, Z.x0, (fun u h => h), Z.i06, .inr ⟨_, rfl, t6, _, _, rfl, rfl, upd_same, by decide, by decide, lsz, fun p6 hp6 => ⟨r2, p6, _, _, rfl, rfl, (((Same.refl _).new ht6).new hp6) _ _ upd_same, upd_same, lsz, fun c3 hc3 => ⟨lsz, fun t7 ht7 => ⟨_, rfl, a, _, dd, _, _, _, _, rfl, (((((((((((((((((((((s0.new ht0).new hp0).new ht1).new hp1).new hr0).new ht2).new hp2).new hc1).new ht3).new hp3).new hr1).new ht4).new hp4).new hc2).new ht5).new hp5).new hr2).new ht6).new hp6).new hc3).new ht7) _ _ ea, (((((((((((((((((((((s0.new ht0).new hp0).new ht1).new hp1).new hr0).new ht2).new hp2).new hc1).new ht3).new hp3).new hr1).new ht4).new hp4).new hc2).new ht5).new hp5).new hr2).new ht6).new hp6).new hc3).new ht7) _ _ ed, Z.x0, (fun u h => h), Z.i07, .inr ⟨_, rfl, t7, _, _, rfl, rfl, upd_same, by decide, by decide, lsz, fun p7 hp7 => ⟨c3, p7, _, _, rfl, rfl, (((Same.refl _).new ht7).new hp7) _ _ upd_same, upd_same, lsz, fun r3 hr3 => ?_⟩⟩⟩⟩⟩⟩⟩⟩
  (refine ⟨_, rfl, rfl, _, rfl, ?_⟩)
  rw [decide_eq_false (show ¬ V.ref a = V.non from fun z => by cases z)]
  refine iteF ⟨_, rfl, .ref r3, 1, rfl, .inl ⟨[V.str (Str.ofString "thing")], sql upd_same, rfl⟩, rfl, _, rfl, ?_⟩
  rw [decide_eq_true (show V.int ((1 : Nat) : Int) = V.int 1 from rfl)]
  refine iteF ⟨_, rfl, a, _, dd, _, _, _, _, rfl, (((((((((((((((((((((((s0.new ht0).new hp0).new ht1).new hp1).new hr0).new ht2).new hp2).new hc1).new ht3).new hp3).new hr1).new ht4).new hp4).new hc2).new ht5).new hp5).new hr2).new ht6).new hp6).new hc3).new ht7).new hp7).new hr3) _ _ ea, (((((((((((((((((((((((s0.new ht0).new hp0).new ht1).new hp1).new hr0).new ht2).new hp2).new hc1).new ht3).new hp3).new hr1).new ht4).new hp4).new hc2).new ht5).new hp5).new hr2).new ht6).new hp6).new hc3).new ht7).new hp7).new hr3) _ _ ed, Z.x0, (fun u h => h), Z.b0O, _, rfl, a, _, dd, _, _, _, _, rfl, (((((((((((((((((((((((s0.new ht0).new hp0).new ht1).new hp1).new hr0).new ht2).new hp2).new hc1).new ht3).new hp3).new hr1).new ht4).new hp4).new hc2).new ht5).new hp5).new hr2).new ht6).new hp6).new hc3).new ht7).new hp7).new hr3) _ _ ea, (((((((((((((((((((((((s0.new ht0).new hp0).new ht1).new hp1).new hr0).new ht2).new hp2).new hc1).new ht3).new hp3).new hr1).new ht4).new hp4).new hc2).new ht5).new hp5).new hr2).new ht6).new hp6).new hc3).new ht7).new hp7).new hr3) _ _ ed, Z.x0, (fun u h => h), Z.b0L, _, rfl, a, _, dd, _, _, _, _, rfl, (((((((((((((((((((((((s0.new ht0).new hp0).new ht1).new hp1).new hr0).new ht2).new hp2).new hc1).new ht3).new hp3).new hr1).new ht4).new hp4).new hc2).new ht5).new hp5).new hr2).new ht6).new hp6).new hc3).new ht7).new hp7).new hr3) _ _ ea, (((((((((((((((((((((((s0.new ht0).new hp0).new ht1).new hp1).new hr0).new ht2).new hp2).new hc1).new ht3).new hp3).new hr1).new ht4).new hp4).new hc2).new ht5).new hp5).new hr2).new ht6).new hp6).new hc3).new ht7).new hp7).new hr3) _ _ ed, Z.x0, (fun u h => h), Z.b0V, lsz, fun B hB => ?_⟩
  refine ⟨_, rfl, _, rfl, r3, [V.str (Str.ofString "thing")], _, _, rfl, rfl, sql (((Same.refl _).new hB) _ _ upd_same), atI_nat (j := 0) rfl, rfl, _, rfl, r3, [V.str (Str.ofString "thing")], _, _, rfl, rfl, sql (((Same.refl _).new hB) _ _ upd_same), atI_nat (j := 0) rfl, rfl, _, rfl, r3, [V.str (Str.ofString "thing")], _, _, rfl, rfl, sql (((Same.refl _).new hB) _ _ upd_same), atI_nat (j := 0) rfl, lsz, fun N hN => ⟨N, _, rfl, .inr (sqt upd_same), rfl, rfl, lsz, fun L hL => ?_⟩⟩
  refine ⟨(.list [.bool false, .bool false, .bool true]), (.list [.bool false, .bool false, .bool true]), .lst (sql ((((Same.refl _).new hN).new hL) _ _ (show _ = some (HO.lst [V.bl false, V.bl false, V.bl true]) from upd_same))) (.cons (.bl _) (.cons (.bl _) (.cons (.bl _) .nil))), .lst (sql (upd_same.trans (congrArg (fun l => some (HO.lst l)) (show _ = [V.bl false, V.bl false, V.bl true] from by decide +kernel)))) (.cons (.bl _) (.cons (.bl _) (.cons (.bl _) .nil))), by decide +kernel, by decide +kernel, _, rfl, ?_⟩
  rw [show (!PyData.eqv (.list [.bool false, .bool false, .bool true]) (.list [.bool false, .bool false, .bool true])) = false from by decide +kernel]
  refine iteF ⟨_, rfl, r3, [V.str (Str.ofString "thing")], _, _, rfl, rfl, sql (((((Same.refl _).new hB).new hN).new hL) _ _ upd_same), atI_nat (j := 0) rfl, lsz, fun N2 hN2 => ⟨N2, _, rfl, .inr (sqt upd_same), rfl, rfl, _, rfl, ?_⟩⟩
  rw [if_neg Bool.false_ne_true, show inV (V.str (Str.ofString "thing")) [V.str (Str.ofString "thing"), V.str (Str.ofString "generator"), V.str (Str.ofString "text"), V.str (Str.ofString "tape"), V.str (Str.ofString "table")] = true from by decide +kernel]
  obtain ⟨ow, sw_, bw⟩ := way_ok hw
  have hsw := shw_len ow
  have hwl : (Str.ofString "thing").length + (Str.ofString " ").length ≤ 100 := by decide +kernel
  refine iteT ⟨_, rfl, r3, [V.str (Str.ofString "thing")], _, _, rfl, rfl, sql ((((((Same.refl _).new hB).new hN).new hL).new hN2) _ _ upd_same), atI_nat (j := 0) rfl, _, _, rfl, rfl, sizes' (by omega), _, rfl, a, C 0, dd, _, r, rfl, (((((((((((((((((((((((((((s0.new ht0).new hp0).new ht1).new hp1).new hr0).new ht2).new hp2).new hc1).new ht3).new hp3).new hr1).new ht4).new hp4).new hc2).new ht5).new hp5).new hr2).new ht6).new hp6).new hc3).new ht7).new hp7).new hr3).new hB).new hN).new hL).new hN2) _ _ ea, (((((((((((((((((((((((((((s0.new ht0).new hp0).new ht1).new hp1).new hr0).new ht2).new hp2).new hc1).new ht3).new hp3).new hr1).new ht4).new hp4).new hc2).new ht5).new hp5).new hr2).new ht6).new hp6).new hc3).new ht7).new hp7).new hr3).new hB).new hN).new hL).new hN2) _ _ ed, Z.x0, Z.p0, rfl, r, wayD way, rfl, (way_rep wr).same (((((((((((((((((((((((((((s0.new ht0).new hp0).new ht1).new hp1).new hr0).new ht2).new hp2).new hc1).new ht3).new hp3).new hr1).new ht4).new hp4).new hc2).new ht5).new hp5).new hr2).new ht6).new hp6).new hc3).new ht7).new hp7).new hr3).new hB).new hN).new hL).new hN2), ow, bdd_mono bw (by omega), by omega, _, _, rfl, rfl, sizes' ?_, fin _ (sa0.trans (((((((((((((((((((((((((((s0.new ht0).new hp0).new ht1).new hp1).new hr0).new ht2).new hp2).new hc1).new ht3).new hp3).new hr1).new ht4).new hp4).new hc2).new ht5).new hp5).new hr2).new ht6).new hp6).new hc3).new ht7).new hp7).new hr3).new hB).new hN).new hL).new hN2))⟩
  have e : (Str.ofString "thing" ++ Str.ofString " ").length = (Str.ofString "thing").length + (Str.ofString " ").length := by decide +kernel
  omega
theorem refused1 (hmg : X.mg = mg) (T : Tx mg) (Z : Rz X.K mg C) {k : Nat} (hr0 : Room (k + 1) X.A) (hg : X.A.guards = some []) {g : Addr} {cdg : Value} {q : Str} :
    LamX.GivesTo X N__law_refused "_law_refused" (defScope s__law_refused) g cdg (defBody s__law_refused) "_law_deed" q (TRef (C 1) "generator") := by
  subst hmg
  intro f c' s H Q tl act hc h
  have nd := sc__law_refused.nd
  have hr : Room k (X.A.deeper (envOfC "_law_refused" (defScope s__law_refused) s.heap.objs.size g cdg)) := hr0.deeper _
  refine ⟨_, (pss_cons (pset 1 nd pe_non)
    (pss_cons (ps_try_keep (i := 2) rfl rfl nd rfl rfl (NmsA.cons rfl rfl Z.m0 (NmsA.cons rfl rfl Z.m1 (NmsA.cons rfl rfl Z.m2 (NmsA.cons rfl rfl Z.m3 (NmsA.cons rfl rfl Z.m4 (NmsA.cons rfl rfl Z.m5 (NmsA.cons rfl rfl Z.m6 (NmsA.cons rfl rfl Z.m7 NmsA.nil)))))))) (fun W pn xe tk _ => try_body (fun E tk1 hW => act W pn xe E _ _ tk1 hW) tk) (fun a pn => pss_one (pset 1 nd (pv 2))))
    (pss_cons (pset 3 nd (pe_op op_cat (pe_op op_rep (pe_lst (pa_cons pe_str pa_nil)) (pe_callTy call_int1 rfl T.n_int bt_int (pa_cons (pe_callB (call_isX X.K) rfl T.n_isinstance bb_isinstance (pa_cons (pv 1) (pa_cons (C8.pe_gc rfl (gcl Z.m0)) pa_nil))) pa_nil))) (pe_op op_rep (pe_lst (pa_cons pe_str pa_nil)) (pe_callTy call_int1 rfl T.n_int bt_int (pa_cons (pe_callB (call_isX X.K) rfl T.n_isinstance bb_isinstance (pa_cons (pv 1) (pa_cons (C8.pe_gc rfl (gcl Z.m1)) pa_nil))) pa_nil)))))
    (pss_cons (pset 3 nd (pe_op op_cat (pe_op op_cat (pv 3) (pe_op op_rep (pe_lst (pa_cons pe_str pa_nil)) (pe_callTy call_int1 rfl T.n_int bt_int (pa_cons (pe_callB (call_isX X.K) rfl T.n_isinstance bb_isinstance (pa_cons (pv 1) (pa_cons (C8.pe_gc rfl (gcl Z.m2)) pa_nil))) pa_nil)))) (pe_op op_rep (pe_lst (pa_cons pe_str pa_nil)) (pe_callTy call_int1 rfl T.n_int bt_int (pa_cons (pe_callB (call_isX X.K) rfl T.n_isinstance bb_isinstance (pa_cons (pv 1) (pa_cons (C8.pe_gc rfl (gcl Z.m3)) pa_nil))) pa_nil)))))
    (pss_cons (pset 3 nd (pe_op op_cat (pe_op op_cat (pv 3) (pe_op op_rep (pe_lst (pa_cons pe_str pa_nil)) (pe_callTy call_int1 rfl T.n_int bt_int (pa_cons (pe_callB (call_isX X.K) rfl T.n_isinstance bb_isinstance (pa_cons (pv 1) (pa_cons (C8.pe_gc rfl (gcl Z.m4)) pa_nil))) pa_nil)))) (pe_op op_rep (pe_lst (pa_cons pe_str pa_nil)) (pe_callTy call_int1 rfl T.n_int bt_int (pa_cons (pe_callB (call_isX X.K) rfl T.n_isinstance bb_isinstance (pa_cons (pv 1) (pa_cons (C8.pe_gc rfl (gcl Z.m5)) pa_nil))) pa_nil)))))
    (pss_cons (pset 3 nd (pe_op op_cat (pe_op op_cat (pv 3) (pe_op op_rep (pe_lst (pa_cons pe_str pa_nil)) (pe_callTy call_int1 rfl T.n_int bt_int (pa_cons (pe_callB (call_isX X.K) rfl T.n_isinstance bb_isinstance (pa_cons (pv 1) (pa_cons (C8.pe_gc rfl (gcl Z.m6)) pa_nil))) pa_nil)))) (pe_op op_rep (pe_lst (pa_cons pe_str pa_nil)) (pe_callTy call_int1 rfl T.n_int bt_int (pa_cons (pe_callB (call_isX X.K) rfl T.n_isinstance bb_isinstance (pa_cons (pv 1) (pa_cons (C8.pe_gc rfl (gcl Z.m7)) pa_nil))) pa_nil)))))
    (pss_cons (ps_if (PW.pt (pw_or (pt_cmpR op_isN (pv 1) pe_non (nomark _)) (pw_or1 (pt_cmpR op_ne (pe_callB (call_lenK X.K) rfl T.n_len PySem.boot_len (pa_cons (pv 3) pa_nil)) pe_int (nomark _))))) (pss_one (ps_ret (pe_ifExp (pt_cmpR op_isN (pv 1) pe_non (nomark _)) pe_str pe_str))) pss_nil)
    (pss_cons (pset 4 nd (pe_lst (pa_cons (pe_callB (call_isX X.K) rfl T.n_isinstance bb_isinstance (pa_cons (pv 1) (pa_cons (pty (n := "OverflowError") rfl T.n_OverflowError bt_OverflowError) pa_nil))) (pa_cons (pe_callB (call_isX X.K) rfl T.n_isinstance bb_isinstance (pa_cons (pv 1) (pa_cons (pty (n := "LookupError") rfl T.n_LookupError bt_LookupError) pa_nil))) (pa_cons (pe_callB (call_isX X.K) rfl T.n_isinstance bb_isinstance (pa_cons (pv 1) (pa_cons (pty (n := "ValueError") rfl T.n_ValueError bt_ValueError) pa_nil))) pa_nil)))))
    (pss_cons (ps_if (pt_cmpR (op_neDK X.K hr) (pv 4) (pe_lst (pa_cons (pe_cmpR op_eq (pe_ix (ix_listK X.K) (pv 3) pe_int (fun _ _ => rfl)) pe_str (nomark _)) (pa_cons (pe_cmpR op_eq (pe_ix (ix_listK X.K) (pv 3) pe_int (fun _ _ => rfl)) pe_str (nomark _)) (pa_cons (pe_cmpR (op_notInK X.K) (pe_ix (ix_listK X.K) (pv 3) pe_int (fun _ _ => rfl)) (pe_tup (pa_cons pe_str (pa_cons pe_str pa_nil))) rfl) pa_nil)))) (nomark _)) (pss_one (ps_ret pe_str)) pss_nil)
    (pss_cons (ps_if (pt_cmpR (op_inK X.K) (pe_ix (ix_listK X.K) (pv 3) pe_int (fun _ _ => rfl)) (pe_tup (pa_cons pe_str (pa_cons pe_str (pa_cons pe_str (pa_cons pe_str (pa_cons pe_str pa_nil)))))) rfl) (pss_one (ps_ret (pe_op op_add_str (pe_op op_add_str (pe_ix (ix_listK X.K) (pv 3) pe_int (fun _ _ => rfl)) pe_str) (pe_callB (call_reprD hg hr.u60) rfl T.n_repr bb_repr (pa_cons (pe_xfK X.K (pv 1)) pa_nil))))) pss_nil)
    (pss_one (ps_ret (pe_ix (ix_listK X.K) (pv 3) pe_int (fun _ _ => rfl)))))))))))))), ?_⟩
  refine ⟨XRef (C 1) "generator" Q, ?_, rfl, hc, h _⟩
  rintro cls d σ' H' ⟨dd, r, way, rfl, rfl, ed0, wr0, hw, fin⟩ hl
  refine ⟨⟨_, _, _, _, _, _, _, _, _, _, _, _, _, _, _, _, rfl, Z.h10, Z.h11, Z.h12, Z.h13, Z.h14, Z.h15, Z.h16, Z.h17, by decide⟩, fun a ha => ?_⟩
  obtain ⟨x0, x1, x2, x3, x4, rfl⟩ : ∃ x0 x1 x2 x3 x4, σ' = [x0, x1, x2, x3, x4] := by
    match σ', hl with
    | [x0, x1, x2, x3, x4], _ => exact ⟨_, _, _, _, _, rfl⟩
  have ea : upd H' a (ExK (.ref (C 1)) (some dd) a) a = some (ExK (.ref (C 1)) (some dd) a) := upd_same
  have ed : upd H' a (ExK (.ref (C 1)) (some dd) a) dd = some (.xd [("place", r)]) := up_ne ed0 ha
  have sa : Same H' (upd H' a (ExK (.ref (C 1)) (some dd) a)) := (Same.refl H').new ha
  have wr := wr0.gr (.of sa)
  have sa0 := sa
  refine ⟨_, rfl, ?_⟩
  generalize upd H' a (ExK (.ref (C 1)) (some dd) a) = Ha at *
  have s0 : Same Ha Ha := Same.refl Ha
  refine ⟨lsz, fun t0 ht0 => ⟨_, rfl, a, _, dd, _, _, _, _, rfl, (s0.new ht0) _ _ ea, (s0.new ht0) _ _ ed, Z.x1, (fun u h => h), Z.i10, .inr ⟨_, rfl, t0, _, _, rfl, rfl, upd_same, by decide, by decide, lsz, fun p0 hp0 => ⟨lsz, fun t1 ht1 => ⟨_, rfl, a, _, dd, _, _, _, _, rfl, (((s0.new ht0).new hp0).new ht1) _ _ ea, (((s0.new ht0).new hp0).new ht1) _ _ ed, Z.x1, (fun u h => h), Z.i11, .inr ⟨_, rfl, t1, _, _, rfl, rfl, upd_same, by decide, by decide, lsz, fun p1 hp1 => ⟨p0, p1, _, _, rfl, rfl, (((Same.refl _).new ht1).new hp1) _ _ upd_same, upd_same, lsz, fun r0 hr0 => ?_⟩⟩⟩⟩⟩⟩⟩
  refine ⟨_, rfl, lsz, fun t2 ht2 => ⟨_, rfl, a, _, dd, _, _, _, _, rfl, ((((((s0.new ht0).new hp0).new ht1).new hp1).new hr0).new ht2) _ _ ea, ((((((s0.new ht0).new hp0).new ht1).new hp1).new hr0).new ht2) _ _ ed, Z.x1, (fun u h => h), Z.i12, .inr ⟨_, rfl, t2, _, _, rfl, rfl, upd_same, by decide, by decide, lsz, fun p2 hp2 => ⟨r0, p2, _, _, rfl, rfl, (((Same.refl _).new ht2).new hp2) _ _ upd_same, upd_same, lsz, fun c1 hc1 => ⟨lsz, fun t3 ht3 => ⟨_, rfl, a, _, dd, _, _, _, _, rfl, (((((((((s0.new ht0).new hp0).new ht1).new hp1).new hr0).new ht2).new hp2).new hc1).new ht3) _ _ ea, (((((((((s0.new ht0).new hp0).new ht1).new hp1).new hr0).new ht2).new hp2).new hc1).new ht3) _ _ ed, Z.x1, (fun u h => h), Z.i13, .inr ⟨_, rfl, t3, _, _, rfl, rfl, upd_same, by decide, by decide, lsz, fun p3 hp3 => ⟨c1, p3, _, _, rfl, rfl, (((Same.refl _).new ht3).new hp3) _ _ upd_same, upd_same, lsz, fun r1 hr1 => ?_⟩⟩⟩⟩⟩⟩⟩⟩
  refine ⟨_, rfl, lsz, fun t4 ht4 => ⟨_, rfl, a, _, dd, _, _, _, _, rfl, ((((((((((((s0.new ht0).new hp0).new ht1).new hp1).new hr0).new ht2).new hp2).new hc1).new ht3).new hp3).new hr1).new ht4) _ _ ea, ((((((((((((s0.new ht0).new hp0).new ht1).new hp1).new hr0).new ht2).new hp2).new hc1).new ht3).new hp3).new hr1).new ht4) _ _ ed, Z.x1, (fun u h => h), Z.i14, .inr ⟨_, rfl, t4, _, _, rfl, rfl, upd_same, by decide, by decide, lsz, fun p4 hp4 => ⟨r1, p4, _, _, rfl, rfl, (((Same.refl _).new ht4).new hp4) _ _ upd_same, upd_same, lsz, fun c2 hc2 => ⟨lsz, fun t5 ht5 => ⟨_, rfl, a, _, dd, _, _, _, _, rfl, (((((((((((((((s0.new ht0).new hp0).new ht1).new hp1).new hr0).new ht2).new hp2).new hc1).new ht3).new hp3).new hr1).new ht4).new hp4).new hc2).new ht5) _ _ ea, (((((((((((((((s0.new ht0).new hp0).new ht1).new hp1).new hr0).new ht2).new hp2).new hc1).new ht3).new hp3).new hr1).new ht4).new hp4).new hc2).new ht5) _ _ ed, Z.x1, (fun u h => h), Z.i15, .inr ⟨_, rfl, t5, _, _, rfl, rfl, upd_same, by decide, by decide, lsz, fun p5 hp5 => ⟨c2, p5, _, _, rfl, rfl, (((Same.refl _).new ht5).new hp5) _ _ upd_same, upd_same, lsz, fun r2 hr2 => ?_⟩⟩⟩⟩⟩⟩⟩⟩
  refine ⟨_, rfl, lsz, fun t6 ht6 => ⟨_, rfl, a, _, dd, _, _, _, _, rfl, ((((((((((((((((((s0.new ht0).new hp0).new ht1).new hp1).new hr0).new ht2).new hp2).new hc1).new ht3).new hp3).new hr1).new ht4).new hp4).new hc2).new ht5).new hp5).new hr2).new ht6) _ _ ea, ((((((((((((((((((s0.new ht0).new hp0).new ht1).new hp1).new hr0).new ht2).new hp2).new hc1).new ht3).new hp3).new hr1).new ht4).new hp4).new hc2).new ht5).new hp5).new hr2).new ht6) _ _ ed, Z.x1, (fun u h => h), Z.i16, .inr ⟨_, rfl, t6, _, _, rfl, rfl, upd_same, by decide, by decide, lsz, fun p6 hp6 => ⟨r2, p6, _, _, rfl, rfl, (((Same.refl _).new ht6).new hp6) _ _ upd_same, upd_same, lsz, fun c3 hc3 => ⟨lsz, fun t7 ht7 => ⟨_, rfl, a, _, dd, _, _, _, _, rfl, (((((((((((((((((((((s0.new ht0).new hp0).new ht1).new hp1).new hr0).new ht2).new hp2).new hc1).new ht3).new hp3).new hr1).new ht4).new hp4).new hc2).new ht5).new hp5).new hr2).new ht6).new hp6).new hc3).new ht7) _ _ ea, (((((((((((((((((((((s0.new ht0).new hp0).new ht1).new hp1).new hr0).new ht2).new hp2).new hc1).new ht3).new hp3).new hr1).new ht4).new hp4).new hc2).new ht5).new hp5).new hr2).new ht6).new hp6).new hc3).new ht7) _ _ ed, Z.x1, (fun u h => h), Z.i17, .inr ⟨_, rfl, t7, _, _, rfl, rfl, upd_same, by decide, by decide, lsz, fun p7 hp7 => ⟨c3, p7, _, _, rfl, rfl, (((Same.refl _).new ht7).new hp7) _ _ upd_same, upd_same, lsz, fun r3 hr3 => ?_⟩⟩⟩⟩⟩⟩⟩⟩
  (refine ⟨_, rfl, rfl, _, rfl, ?_⟩)
  rw [decide_eq_false (show ¬ V.ref a = V.non from fun z => by cases z)]
  refine iteF ⟨_, rfl, .ref r3, 1, rfl, .inl ⟨[V.str (Str.ofString "generator")], sql upd_same, rfl⟩, rfl, _, rfl, ?_⟩
  rw [decide_eq_true (show V.int ((1 : Nat) : Int) = V.int 1 from rfl)]
  refine iteF ⟨_, rfl, a, _, dd, _, _, _, _, rfl, (((((((((((((((((((((((s0.new ht0).new hp0).new ht1).new hp1).new hr0).new ht2).new hp2).new hc1).new ht3).new hp3).new hr1).new ht4).new hp4).new hc2).new ht5).new hp5).new hr2).new ht6).new hp6).new hc3).new ht7).new hp7).new hr3) _ _ ea, (((((((((((((((((((((((s0.new ht0).new hp0).new ht1).new hp1).new hr0).new ht2).new hp2).new hc1).new ht3).new hp3).new hr1).new ht4).new hp4).new hc2).new ht5).new hp5).new hr2).new ht6).new hp6).new hc3).new ht7).new hp7).new hr3) _ _ ed, Z.x1, (fun u h => h), Z.b1O, _, rfl, a, _, dd, _, _, _, _, rfl, (((((((((((((((((((((((s0.new ht0).new hp0).new ht1).new hp1).new hr0).new ht2).new hp2).new hc1).new ht3).new hp3).new hr1).new ht4).new hp4).new hc2).new ht5).new hp5).new hr2).new ht6).new hp6).new hc3).new ht7).new hp7).new hr3) _ _ ea, (((((((((((((((((((((((s0.new ht0).new hp0).new ht1).new hp1).new hr0).new ht2).new hp2).new hc1).new ht3).new hp3).new hr1).new ht4).new hp4).new hc2).new ht5).new hp5).new hr2).new ht6).new hp6).new hc3).new ht7).new hp7).new hr3) _ _ ed, Z.x1, (fun u h => h), Z.b1L, _, rfl, a, _, dd, _, _, _, _, rfl, (((((((((((((((((((((((s0.new ht0).new hp0).new ht1).new hp1).new hr0).new ht2).new hp2).new hc1).new ht3).new hp3).new hr1).new ht4).new hp4).new hc2).new ht5).new hp5).new hr2).new ht6).new hp6).new hc3).new ht7).new hp7).new hr3) _ _ ea, (((((((((((((((((((((((s0.new ht0).new hp0).new ht1).new hp1).new hr0).new ht2).new hp2).new hc1).new ht3).new hp3).new hr1).new ht4).new hp4).new hc2).new ht5).new hp5).new hr2).new ht6).new hp6).new hc3).new ht7).new hp7).new hr3) _ _ ed, Z.x1, (fun u h => h), Z.b1V, lsz, fun B hB => ?_⟩
  refine ⟨_, rfl, _, rfl, r3, [V.str (Str.ofString "generator")], _, _, rfl, rfl, sql (((Same.refl _).new hB) _ _ upd_same), atI_nat (j := 0) rfl, rfl, _, rfl, r3, [V.str (Str.ofString "generator")], _, _, rfl, rfl, sql (((Same.refl _).new hB) _ _ upd_same), atI_nat (j := 0) rfl, rfl, _, rfl, r3, [V.str (Str.ofString "generator")], _, _, rfl, rfl, sql (((Same.refl _).new hB) _ _ upd_same), atI_nat (j := 0) rfl, lsz, fun N hN => ⟨N, _, rfl, .inr (sqt upd_same), rfl, rfl, lsz, fun L hL => ?_⟩⟩
  refine ⟨(.list [.bool false, .bool false, .bool true]), (.list [.bool false, .bool false, .bool true]), .lst (sql ((((Same.refl _).new hN).new hL) _ _ (show _ = some (HO.lst [V.bl false, V.bl false, V.bl true]) from upd_same))) (.cons (.bl _) (.cons (.bl _) (.cons (.bl _) .nil))), .lst (sql (upd_same.trans (congrArg (fun l => some (HO.lst l)) (show _ = [V.bl false, V.bl false, V.bl true] from by decide +kernel)))) (.cons (.bl _) (.cons (.bl _) (.cons (.bl _) .nil))), by decide +kernel, by decide +kernel, _, rfl, ?_⟩
  rw [show (!PyData.eqv (.list [.bool false, .bool false, .bool true]) (.list [.bool false, .bool false, .bool true])) = false from by decide +kernel]
  refine iteF ⟨_, rfl, r3, [V.str (Str.ofString "generator")], _, _, rfl, rfl, sql (((((Same.refl _).new hB).new hN).new hL) _ _ upd_same), atI_nat (j := 0) rfl, lsz, fun N2 hN2 => ⟨N2, _, rfl, .inr (sqt upd_same), rfl, rfl, _, rfl, ?_⟩⟩
  rw [if_neg Bool.false_ne_true, show inV (V.str (Str.ofString "generator")) [V.str (Str.ofString "thing"), V.str (Str.ofString "generator"), V.str (Str.ofString "text"), V.str (Str.ofString "tape"), V.str (Str.ofString "table")] = true from by decide +kernel]
  obtain ⟨ow, sw_, bw⟩ := way_ok hw
  have hsw := shw_len ow
  have hwl : (Str.ofString "generator").length + (Str.ofString " ").length ≤ 100 := by decide +kernel
  refine iteT ⟨_, rfl, r3, [V.str (Str.ofString "generator")], _, _, rfl, rfl, sql ((((((Same.refl _).new hB).new hN).new hL).new hN2) _ _ upd_same), atI_nat (j := 0) rfl, _, _, rfl, rfl, sizes' (by omega), _, rfl, a, C 1, dd, _, r, rfl, (((((((((((((((((((((((((((s0.new ht0).new hp0).new ht1).new hp1).new hr0).new ht2).new hp2).new hc1).new ht3).new hp3).new hr1).new ht4).new hp4).new hc2).new ht5).new hp5).new hr2).new ht6).new hp6).new hc3).new ht7).new hp7).new hr3).new hB).new hN).new hL).new hN2) _ _ ea, (((((((((((((((((((((((((((s0.new ht0).new hp0).new ht1).new hp1).new hr0).new ht2).new hp2).new hc1).new ht3).new hp3).new hr1).new ht4).new hp4).new hc2).new ht5).new hp5).new hr2).new ht6).new hp6).new hc3).new ht7).new hp7).new hr3).new hB).new hN).new hL).new hN2) _ _ ed, Z.x1, Z.p1, rfl, r, wayD way, rfl, (way_rep wr).same (((((((((((((((((((((((((((s0.new ht0).new hp0).new ht1).new hp1).new hr0).new ht2).new hp2).new hc1).new ht3).new hp3).new hr1).new ht4).new hp4).new hc2).new ht5).new hp5).new hr2).new ht6).new hp6).new hc3).new ht7).new hp7).new hr3).new hB).new hN).new hL).new hN2), ow, bdd_mono bw (by omega), by omega, _, _, rfl, rfl, sizes' ?_, fin _ (sa0.trans (((((((((((((((((((((((((((s0.new ht0).new hp0).new ht1).new hp1).new hr0).new ht2).new hp2).new hc1).new ht3).new hp3).new hr1).new ht4).new hp4).new hc2).new ht5).new hp5).new hr2).new ht6).new hp6).new hc3).new ht7).new hp7).new hr3).new hB).new hN).new hL).new hN2))⟩
  have e : (Str.ofString "generator" ++ Str.ofString " ").length = (Str.ofString "generator").length + (Str.ofString " ").length := by decide +kernel
  omega
end
end K6
set_option maxHeartbeats 8000000
namespace K6
open L2 PySem PySem.Spec PyProof.Rows
def KpN (z : Sl) (H H' : Hp) : Prop := ∀ b u, b ≠ z.s → b ≠ z.l → (∀ ps, u ≠ .tbl ps) → H b = some u → H' b = some u
structure Dn (z : Sl) (c : Nat) (H : Hp) (k : Nat) (H' : Hp) (k' : Nat) : Prop where
  kp : KpN z H H'
  st : St z H' k'
  ge : k ≤ k'
  le : k' ≤ k + c
theorem Dn.of {z : Sl} {c : Nat} {H H' : Hp} {k k' : Nat} (d : Dw z c H k H' k') : Dn z c H k H' k' := ⟨fun b u n m _ e => d.kp b u n m e, d.st, d.ge, d.le⟩
theorem Dn.trans {z : Sl} {c c' : Nat} {H H1 H2 : Hp} {k k1 k2 : Nat} (a : Dn z c H k H1 k1) (b : Dn z c' H1 k1 H2 k2) : Dn z (c + c') H k H2 k2 := ⟨fun p u n m t e => b.kp p u n m t (a.kp p u n m t e), b.st, Nat.le_trans a.ge b.ge, by have := a.le; have := b.le; omega⟩
theorem Dn.up {z : Sl} {c c' : Nat} {H H1 : Hp} {k k1 : Nat} (a : Dn z c H k H1 k1) (h : c ≤ c') : Dn z c' H k H1 k1 := ⟨a.kp, a.st, a.ge, by have := a.le; omega⟩
theorem Dn.gr {z : Sl} {c : Nat} {H H' : Hp} {k k' : Nat} (d : Dn z c H k H' k') (a : St z H k) : Gr H H' := by
  obtain ⟨ls, hl, _⟩ := a.l
  obtain ⟨ls', hl', _⟩ := d.st.l
  refine ⟨fun c xs h => d.kp c _ (ne_of h a.d (by intro z; cases z)) (ne_of h hl (by intro z; cases z)) (by intro ps z; cases z) h, fun c xs h => ?_, fun c xs h => ?_⟩
  · by_cases e : c = z.l
    · exact ⟨_, by rw [e]; exact hl'⟩
    · exact ⟨xs, d.kp c _ (ne_of h a.d (by intro z; cases z)) e (by intro ps z; cases z) h⟩
  · by_cases e : c = z.s
    · exact ⟨_, by rw [e]; exact d.st.d⟩
    · exact ⟨xs, d.kp c _ e (ne_of h hl (by intro z; cases z)) (by intro ps z; cases z) h⟩
theorem Dn.ext {z : Sl} {H H' : Hp} {k : Nat} (a : St z H k) (x : LamX.ExtN H H') : Dn z 0 H k H' k := by
  obtain ⟨ls, hl, e⟩ := a.l
  obtain ⟨o, hc⟩ := a.c
  exact ⟨fun b u _ _ t e => x b u e t, ⟨x _ _ a.d (by intro ps z; cases z), ⟨o, x _ _ hc (by intro ps z; cases z)⟩, ⟨ls, x _ _ hl (by intro ps z; cases z), e⟩, a.n1, a.n2, a.small⟩, Nat.le_refl _, Nat.le_refl _⟩
theorem tabs_dw {T : List (Addr × Str)} {z : Sl} {c : Nat} {H H' : Hp} {k k' : Nat} (t : LamX.Tabs T H) (a : St z H k) (d : Dw z c H k H' k') : LamX.Tabs T H' := fun p hp => by
  obtain ⟨ls, hl, _⟩ := a.l
  obtain ⟨ps, e, h1, h2⟩ := t p hp
  refine ⟨ps, d.kp _ _ (ne_of e a.d (by intro z; cases z)) (ne_of e hl (by intro z; cases z)) e, h1, fun pos cv hc => ?_⟩
  obtain ⟨b, e1, e2⟩ := h2 pos cv hc
  exact ⟨b, e1, d.kp _ _ (ne_of e2 a.d (by intro z; unfold LamX.CodeO at z; cases z)) (ne_of e2 hl (by intro z; unfold LamX.CodeO at z; cases z)) e2⟩
structure DfT (K : PySem.W.Frag) (mg : Str → Option Value) (x : Str) (st : Stmt) (ps : List Str) (c : Addr) : Prop where
  ex : ∃ (f : Addr) (fd : FuncData), FunD K x x (defArgs st) (defBody st) (defScope st) [] [] f fd ∧ fd.code = .ref c ∧ mg x = some (.ref f)
  b : ∀ (kV doc pm : Value) (an : Option Addr) (cdv ct : Value) (us : List Value), us.length = ps.length → bindArgs (PySem.W.fnOf x x (defArgs st) (defBody st) (defScope st) .none kV doc pm an cdv ct) ⟨us, []⟩ = pure (ps.zip us)
section
variable {P : Program}
variable {w : World} {K : PySem.W.Frag} {mg : Str → Option Value} {base : Heap}
theorem DfT.clG {x : Str} {st : Stmt} {N ps : List Str} {k : Nat} {sp : Sp} {c : Addr} (F : DfT K mg x st ps c) (S : FnScope N ps (defScope st)) (len : ∀ vs H Q E, sp vs H Q E → vs.length = ps.length)
    (hbody : ∀ (f : Addr) (A : Around) (outer : List Env) (s : Shared) (H : Hp) (vs : List V) (Q : VK) (E : XK), Room k (A.deeper (envOfC x (defScope st) s.heap.objs.size f (.ref c))) → A.guards = some [] → sp vs H Q E →
      ∃ t, PSs (cxOf (L2.CX P w) P w K mg base N x (defScope st) f (.ref c) A outer s H E) (defBody st) t ∧ t { nx := fun _ H' => Q .non H', rt := Q } (start N vs) H) : ClG P w K mg base (k + 1) x sp := by
  obtain ⟨f, fd, FD, hcode, m⟩ := F.ex
  have kp := FD.kp
  have b := FD.bindsN F.b
  obtain ⟨oc, od, dV, kV, doc, pm, an, cdv, ct, osl, rfl, lk, hcd, _, _⟩ := FD.ex
  obtain rfl : cdv = Value.ref c := hcode
  exact ⟨f, _, ps, len, fun A outer s H args us vs Q E hr hg e0 hb r hsp => LamX.run_ofS lk hcd S hr e0 hb r (len _ _ _ _ hsp) fun hr' => hbody f A outer s H vs Q E hr' hg hsp, m, kp, b⟩
end
def lamT (P0 P1 : Addr) : List (Addr × Str) := [(P0, (Str.ofString "_law_thing_right.<locals>." ++ "<lambda>")), (P1, (Str.ofString "_law_generator_right.<locals>." ++ "<lambda>"))]
def sp_tright (T : List (Addr × Str)) : Sp := fun vs H Q _ => ∃ (z : Sl) (k : Nat) (v : V) (d : D), vs = [.ref z.s, v] ∧ Rep H v d ∧ St z H k ∧ LamX.Tabs T H ∧ k + 700 ≤ KM ∧ ∀ H' k', Dn z 700 H k H' k' → LamX.Tabs T H' → Q (.bl true) H'
section
variable {P : Program} {w : World} {K : PySem.W.Frag} {mg : Str → Option Value} {base : Heap} {C : Nat → Addr} {c0 c1 P0 P1 : Addr}
abbrev s__law_thing_right : Stmt := top 119
abbrev N__law_thing_right : List Str := ["_law_state", "_law_thing_here", "_law_place_here", "_law_words_here", "_law_texts", "_law_text"]
theorem sc__law_thing_right : FnScope N__law_thing_right ["_law_state", "_law_thing_here"] (defScope s__law_thing_right) := ⟨rfl, rfl, rfl, by decide +kernel, rfl, by decide +kernel, by decide +kernel⟩
theorem cl__law_thing_right (F : DfT K mg "_law_thing_right" s__law_thing_right ["_law_state", "_law_thing_here"] c0) (Fr : Df K mg "_law_refused" s__law_refused ["_law_deed"]) (T : Tx mg) (Z : Rz K mg C) (TB : LamX.TabB base mg c0 P0) (hP : P0 ≠ P1)
    (c__law_bad_thing : Cl P w K mg base 2 "_law_bad_thing" sp_bad_thing) (c__law_thing_words : Cl P w K mg base 7 "_law_thing_words" (sp_tw 6)) (c_thing_text : Cl P w K mg base 9 "thing_text" (sp_thing_text (C 0))) (c__law_spread : Cl P w K mg base 1 "_law_spread" sp_spread)
    (c__law_loose : Cl P w K mg base 4 "_law_loose" sp_loose) (c_read_thing : Cl P w K mg base 5 "read_thing" sp_read_thing) : ClG P w K mg base 12 "_law_thing_right" (sp_tright (lamT P0 P1)) := by
  obtain ⟨gr, fdr, FDr, mr⟩ := Fr.ex
  have kpr := FDr.kp
  have br := FDr.bindsN Fr.b
  obtain ⟨ocr, odr, dVr, kVr, docr, pmr, anr, cdvr, ctr, oslr, rfl, lkr, hcdr, _, _⟩ := FDr.ex
  refine F.clG sc__law_thing_right (fun vs H Q E h => by obtain ⟨_, _, _, _, rfl, _⟩ := h; rfl) (fun f A outer s H vs Q E hr hg h => ?_)
  have nd := sc__law_thing_right.nd
  obtain ⟨z, k, v, d, rfl, rd, st, tb, hk, q⟩ := h
  refine ⟨_, (pss_cons (pset 2 nd (pf c__law_bad_thing hr (by omega) rfl (pa_cons (pv 1) (pa_cons pe_int (pa_cons (pe_op op_pow pe_int pe_int) pa_nil)))))
    (pss_cons (ps_if (pt_cmpR op_notN (pv 2) pe_non (nomark _)) (pss_one (ps_ret (pe_cmpR op_eq (LamX.pe_lamcall (k := 9) (T := lamT P0 P1) (TT := TRef (C 0) "thing") (t := fun E => tCall (sp_thing_text (C 0)) [] E (tCons (tVar 1) tNil)) rfl mr kpr lkr hcdr br sc__law_refused rfl (.inl rfl) (refused0 rfl T Z hr hg) TB rfl (.head _) (fun p hp e => by simp only [lamT, List.mem_cons, List.not_mem_nil, or_false] at hp; rcases hp with rfl | rfl; rfl; exact absurd e.symm hP) hr (LamX.lamS_by (show LamX.lamSB (defScope s__law_thing_right) _ = true from by decide +kernel)) rfl (fun _ _ _ _ _ => rfl) (fun A2 o2 s2 H2 E2 f2 c2 hr2 => pfX c_thing_text (takes_of rfl rfl rfl rfl) (fun _ _ _ _ h => h) hr2 (by omega) rfl (pa_cons (pv 1) pa_nil))) (pe_op op_add_str pe_str (pe_callB (call_reprD hg hr.u60) rfl T.n_repr bb_repr (pa_cons (pv 2) pa_nil))) (nomark _)))) pss_nil)
    (pss_cons (pset 3 nd (pf c__law_thing_words hr (by omega) rfl (pa_cons (pv 1) pa_nil)))
    (pss_cons (ps_if (pt_cmpR op_ne (pf c_thing_text hr (by omega) rfl (pa_cons (pv 1) pa_nil)) (pf c__law_spread hr (by omega) rfl (pa_cons (pv 3) pa_nil)) (nomark _)) (pss_one (ps_ret pe_bl)) pss_nil)
    (pss_cons (pset 4 nd (pe_lst (pa_cons (pf c__law_spread hr (by omega) rfl (pa_cons (pv 3) pa_nil)) (pa_cons (pf c__law_loose hr (by omega) rfl (pa_cons (pv 0) (pa_cons (pv 3) pa_nil))) pa_nil))))
    (pss_one (ps_ret (pe_cmpR (op_eqEK K hr) (pe_lc (own := [("_law_text", 5)]) rfl nd (pi_listK K (pv 4)) (blkOk_by (own := [("_law_text", 5)]) (N := N__law_thing_right) (sc := defScope s__law_thing_right) (by decide +kernel)) (fun _ _ _ _ _ => (pgn 5 nd)) (fun _ _ _ _ _ => (pts_one (PW.pt (pw_and (pt_cmpR op_lt (pe_callB (call_lenK K) rfl T.n_len PySem.boot_len (pa_cons (pv 5) pa_nil)) pe_int (nomark _)) (pw_and1 (pt_cmpR op_ne (pe_callB (call_reprD hg hr.u60) rfl T.n_repr bb_repr (pa_cons (pf c_read_thing hr (by omega) rfl (pa_cons (pv 5) pa_nil)) pa_nil)) (pe_callB (call_reprD hg hr.u60) rfl T.n_repr bb_repr (pa_cons (pv 1) pa_nil)) (nomark _))))))) (fun _ _ _ _ _ => (pv 5))) (pe_lst pa_nil) (nomark _))))))))), ?_⟩
  have e60 : (10 : Int) ^ (60 : Int).toNat = 10 ^ 60 := by decide
  refine ⟨_, rfl, _, _, rfl, rfl, ⟨by decide, by decide, by decide⟩, v, d, 300, _, rfl, rd, by decide, by decide, fun H1 r s1 wr => ?_⟩
  rw [e60] at wr
  have d1 : Dw z 0 H k H1 k := (Dw.refl st).same s1
  have rd1 := rd.same s1
  have tb1 := tb.ext s1
  cases e : fb (gd (10 ^ 60)) 300 300 [([], d)] with
  | some way =>
    rw [e] at wr
    obtain ⟨wa, rfl, wea⟩ := id (show WayR H1 r way from wr)
    have wb := fb_way0 (by decide) e
    obtain ⟨ow, sw_, bw⟩ := way_ok wb
    have hsw := shw_len ow
    (refine ⟨_, rfl, rfl, _, rfl, ?_⟩)
    rw [decide_eq_false (show ¬ V.ref wa = V.non from fun y => by cases y)]
    refine iteT ⟨tb1, fun H2 xN tb2 Q' => ⟨_, rfl, v, d, rfl, rd1.gr ((Dn.ext d1.st xN).gr d1.st), (fun e2 => by rw [e] at e2; cases e2), fun way2 e2 dd H3 r3 s3 ed3 wr3 => ?_⟩⟩
    rw [e] at e2
    cases e2
    refine ⟨dd, r3, way, rfl, rfl, ed3, wr3, wb, fun H4 s4 => ?_⟩
    have d2 := (Dn.of d1).trans (Dn.ext d1.st xN)
    have d4 := d2.trans (Dn.of ((Dw.refl d2.st).same (s3.trans s4)))
    have wr4 : WayR H4 (.ref wa) way := (WayR.gr ⟨wa, rfl, wea⟩ ((Dn.ext d1.st xN).gr d1.st)).gr (.of (s3.trans s4))
    have ht : (Str.ofString "thing ").length ≤ 100 := by decide +kernel
    refine ⟨_, rfl, .ref wa, wayD way, rfl, way_rep wr4, ow, bdd_mono bw (by omega), by omega, _, _, rfl, rfl, sizes' (by omega), rfl, ?_⟩
    rw [decide_eq_true (show V.str (Str.ofString "thing" ++ Str.ofString " " ++ shw (wayD way)) = V.str (Str.ofString "thing " ++ shw (wayD way)) by rw [show Str.ofString "thing" ++ Str.ofString " " = Str.ofString "thing " by decide +kernel])]
    exact q _ _ (d4.up (by omega)) (tb2.ext (s3.trans s4))
  | none =>
    rw [e] at wr
    obtain rfl : r = V.non := wr
    obtain ⟨ht, hcn⟩ := fb_start.mp e
    have hok := okS_tok (by decide) 6 d ht
    have hsz := sz_tok 6 d ht
    have hbd : bdd 30 d = true := bdd_mono (bdd_tok 6 d ht (by omega)) (by omega)
    have hsum := tw_sum ht hcn
    have hlen := tw_le 6 d
    have hw := ttk_words 6 d
    have hll : (ttk 6 d).length = (tw 6 d).length := by rw [← hw, List.length_map]
    (refine ⟨_, rfl, rfl, _, rfl, ?_⟩)
    rw [decide_eq_true (show V.non = V.non from rfl)]
    refine iteF ⟨_, rfl, v, d, rfl, rd1, ht, hcn, fun H2 a s2 na ea => ?_⟩
    have nal := (d1.st.fresh na).2.1
    have d2 := d1.same s2
    have rd2 := rd1.same s2
    refine ⟨_, rfl, v, d, rfl, rd2, fun _ H3 s3 => ⟨_, rfl, a, tw 6 d, rfl, s3 _ _ ea, by omega, fun H4 s4 => ⟨rfl, _, rfl, ?_⟩⟩, fun way e2 => by rw [e] at e2; cases e2⟩
    rw [decide_eq_true rfl]
    refine iteF ⟨_, rfl, a, tw 6 d, rfl, s4 _ _ (s3 _ _ ea), by omega, fun H5 s5 => ?_⟩
    have s25 := (s3.trans s4).trans s5
    have d5 := d2.same s25
    refine ⟨_, rfl, _, rfl, z, k, a, ttk 6 d, rfl, by rw [hw]; exact s25 _ _ ea, nal, ttk_good 6 d ht, by omega, by rw [hw]; omega, d5.st, by omega, fun H6 k6 t d6 gap ltt => ⟨lsz, fun L hL => ?_⟩⟩
    have d7 := (d5.trans d6).new hL (o := .lst [.str (S (sprd (tw 6 d))), .str (S t)])
    have tb7 : LamX.Tabs (lamT P0 P1) (upd H6 L (.lst [.str (S (sprd (tw 6 d))), .str (S t)])) := (tabs_dw (tb1.ext (s2.trans s25)) d5.st d6).ext ((Same.refl H6).new hL)
    have rd7 : Rep (upd H6 L (.lst [.str (S (sprd (tw 6 d))), .str (S t)])) v d := (rd2.same s25).gr ((d6.gr d5.st).trans (.of ((Same.refl H6).new hL)))
    have eL : (upd H6 L (.lst [.str (S (sprd (tw 6 d))), .str (S t)])) L = some (.lst [.str (S (sprd (tw 6 d))), .str (S t)]) := upd_same
    generalize (upd H6 L (.lst [.str (S (sprd (tw 6 d))), .str (S t)])) = H7 at *
    have hsp : (sprd (tw 6 d)).length ≤ 1000000 := by have := sprd_len (tw 6 d); omega
    have item : ∀ (i : Nat) x, [V.str (S (sprd (tw 6 d))), V.str (S t)][i]? = some x → ∃ tt, x = .str (S tt) ∧ tt.length ≤ 1000000 ∧ toks tt = ttk 6 d := fun i x hx => by
      match i, hx with
      | 0, hx => cases hx; exact ⟨_, rfl, hsp, by rw [← hw]; exact toks_gap (gap_sprd (ttk_good 6 d ht))⟩
      | 1, hx => cases hx; exact ⟨_, rfl, ltt, toks_gap gap⟩
      | i + 2, hx => simp at hx
    refine ⟨_, rfl, L, rfl, ⟨_, sql eL⟩, fun D hD => lc_it (walk_list (xs := [V.str (S (sprd (tw 6 d))), V.str (S t)])) (fun i H' => Same H7 H' ∧ H' D = some (.lst [])) ⟨(Same.refl _).new hD, upd_same⟩ (fun i H' _ p => sql (p.1 _ _ eL)) ?_ ?_⟩
    · rintro i x H8 H9 hi ⟨s8, e8⟩ ⟨rfl, hx⟩
      obtain ⟨tt, rfl, hl, htk⟩ := item i x hx
      have hls : (S tt).length ≤ sizeLine := by rw [S_len tt]; exact sizes' hl
      refine ⟨rfl, _, rfl, .str (S tt), tt.length, rfl, ⟨hls, (S_len tt).symm⟩, ?_⟩
      refine ⟨_, _, rfl, rfl, ?_⟩
      generalize hb : (fun i j : Int => V.bl (decide (i < j))) (tt.length : Int) 30001 = vb
      obtain ⟨b, hb2, rfl⟩ : ∃ b : Bool, (b = true → (tt.length : Int) < 30001) ∧ vb = V.bl b := ⟨decide ((tt.length : Int) < 30001), of_decide_eq_true, hb.symm⟩
      clear hb
      refine ⟨b, rfl, ?_⟩
      cases b with
      | true =>
        have hs := hb2 rfl
        refine iteT ⟨_, rfl, tt, d, rfl, by omega, htk, e, fun H10 v2 s10 rv2 => ⟨v2, d, rfl, rv2, hok, hbd, by omega, _, rfl, v, d, rfl, rd7.same (s8.trans s10), hok, hbd, by omega, rfl, _, rfl, ?_⟩⟩
        rw [decide_eq_true rfl]
        exact iteF ⟨s8.trans s10, s10 _ _ e8⟩
      | false => exact iteF ⟨s8, e8⟩
    · rintro H8 ⟨s8, e8⟩
      refine ⟨lsz, fun q0 hq0 => ⟨D, q0, _, rfl, rfl, sql (up_ne e8 hq0), sql upd_same, ?_⟩⟩
      exact q _ _ (Dn.of (((d7.same s8).new hq0).up (by omega))) (tb7.ext (s8.new hq0))
end
end K6
set_option maxHeartbeats 8000000
namespace K6
open L2 PySem PySem.Spec PyProof.Rows
def sp_gright (T : List (Addr × Str)) : Sp := fun vs H Q _ => ∃ (z : Sl) (k : Nat) (v : V) (d : D), vs = [.ref z.s, v] ∧ Rep H v d ∧ St z H k ∧ LamX.Tabs T H ∧ k + 30010 ≤ KM ∧ ∀ H' k', Dn z 30010 H k H' k' → LamX.Tabs T H' → Q (.bl true) H'
section
variable {P : Program} {w : World} {K : PySem.W.Frag} {mg : Str → Option Value} {base : Heap} {C : Nat → Addr} {c0 c1 P0 P1 : Addr}
abbrev s__law_generator_right : Stmt := top 120
abbrev N__law_generator_right : List Str := ["_law_state", "_law_generator_here", "_law_place_here", "_law_words_here", "_law_texts", "_law_text"]
theorem sc__law_generator_right : FnScope N__law_generator_right ["_law_state", "_law_generator_here"] (defScope s__law_generator_right) := ⟨rfl, rfl, rfl, by decide +kernel, rfl, by decide +kernel, by decide +kernel⟩
theorem cl__law_generator_right (F : DfT K mg "_law_generator_right" s__law_generator_right ["_law_state", "_law_generator_here"] c1) (Fr : Df K mg "_law_refused" s__law_refused ["_law_deed"]) (T : Tx mg) (Z : Rz K mg C) (TB : LamX.TabB base mg c1 P1) (hP : P0 ≠ P1)
    (c__law_place : Cl P w K mg base 5 "_law_place" sp_place) (c__law_words : Cl P w K mg base 14 "_law_words" (sp_gw 6)) (c_generator_text : Cl P w K mg base 22 "generator_text" (sp_gen_text (C 1))) (c__law_spread : Cl P w K mg base 1 "_law_spread" sp_spread)
    (c__law_loose : Cl P w K mg base 4 "_law_loose" sp_loose) (c_read_generator : Cl P w K mg base 25 "read_generator" sp_read_gen) : ClG P w K mg base 26 "_law_generator_right" (sp_gright (lamT P0 P1)) := by
  obtain ⟨gr, fdr, FDr, mr⟩ := Fr.ex
  have kpr := FDr.kp
  have br := FDr.bindsN Fr.b
  obtain ⟨ocr, odr, dVr, kVr, docr, pmr, anr, cdvr, ctr, oslr, rfl, lkr, hcdr, _, _⟩ := FDr.ex
  refine F.clG sc__law_generator_right (fun vs H Q E h => by obtain ⟨_, _, _, _, rfl, _⟩ := h; rfl) (fun f A outer s H vs Q E hr hg h => ?_)
  have nd := sc__law_generator_right.nd
  obtain ⟨z, k, v, d, rfl, rd, st, tb, hk, q⟩ := h
  refine ⟨_, (pss_cons (pset 2 nd (pf c__law_place hr (by omega) rfl (pa_cons (pv 1) pa_nil)))
    (pss_cons (ps_if (pt_cmpR op_notN (pv 2) pe_non (nomark _)) (pss_one (ps_ret (pe_cmpR op_eq (LamX.pe_lamcall (k := 23) (T := lamT P0 P1) (TT := TRef (C 1) "generator") (t := fun E => tCall (sp_gen_text (C 1)) [] E (tCons (tVar 1) tNil)) rfl mr kpr lkr hcdr br sc__law_refused rfl (.inl rfl) (refused1 rfl T Z hr hg) TB rfl (.tail _ (.head _)) (fun p hp e => by simp only [lamT, List.mem_cons, List.not_mem_nil, or_false] at hp; rcases hp with rfl | rfl; exact absurd e hP; rfl) hr (LamX.lamS_by (show LamX.lamSB (defScope s__law_generator_right) _ = true from by decide +kernel)) rfl (fun _ _ _ _ _ => rfl) (fun A2 o2 s2 H2 E2 f2 c2 hr2 => pfX c_generator_text (takes_of rfl rfl rfl rfl) (fun _ _ _ _ h => h) hr2 (by omega) rfl (pa_cons (pv 1) pa_nil))) (pe_op op_add_str pe_str (pe_callB (call_reprD hg hr.u60) rfl T.n_repr bb_repr (pa_cons (pv 2) pa_nil))) (nomark _)))) pss_nil)
    (pss_cons (pset 3 nd (pf c__law_words hr (by omega) rfl (pa_cons (pv 1) pa_nil)))
    (pss_cons (ps_if (pt_cmpR op_ne (pf c_generator_text hr (by omega) rfl (pa_cons (pv 1) pa_nil)) (pf c__law_spread hr (by omega) rfl (pa_cons (pv 3) pa_nil)) (nomark _)) (pss_one (ps_ret pe_bl)) pss_nil)
    (pss_cons (pset 4 nd (pe_lst (pa_cons (pf c__law_spread hr (by omega) rfl (pa_cons (pv 3) pa_nil)) (pa_cons (pf c__law_loose hr (by omega) rfl (pa_cons (pv 0) (pa_cons (pv 3) pa_nil))) pa_nil))))
    (pss_one (ps_ret (pe_cmpR (op_eqEK K hr) (pe_lc (own := [("_law_text", 5)]) rfl nd (pi_listK K (pv 4)) (blkOk_by (own := [("_law_text", 5)]) (N := N__law_generator_right) (sc := defScope s__law_generator_right) (by decide +kernel)) (fun _ _ _ _ _ => (pgn 5 nd)) (fun _ _ _ _ _ => (pts_one (PW.pt (pw_and (pt_cmpR op_lt (pe_callB (call_lenK K) rfl T.n_len PySem.boot_len (pa_cons (pv 5) pa_nil)) pe_int (nomark _)) (pw_and1 (pt_cmpR op_ne (pe_callB (call_reprD hg hr.u60) rfl T.n_repr bb_repr (pa_cons (pf c_read_generator hr (by omega) rfl (pa_cons (pv 5) pa_nil)) pa_nil)) (pe_callB (call_reprD hg hr.u60) rfl T.n_repr bb_repr (pa_cons (pv 1) pa_nil)) (nomark _))))))) (fun _ _ _ _ _ => (pv 5))) (pe_lst pa_nil) (nomark _))))))))), ?_⟩
  refine ⟨_, rfl, v, d, rfl, rd, fun H1 r s1 wr => ?_⟩
  have d1 : Dw z 0 H k H1 k := (Dw.refl st).same s1
  have rd1 := rd.same s1
  have tb1 := tb.ext s1
  cases e : gw d with
  | some way =>
    rw [e] at wr
    obtain ⟨wa, rfl, wea⟩ := id (show WayR H1 r way from wr)
    have wb := gw_way e
    obtain ⟨ow, sw_, bw⟩ := way_ok wb
    have hsw := shw_len ow
    (refine ⟨_, rfl, rfl, _, rfl, ?_⟩)
    rw [decide_eq_false (show ¬ V.ref wa = V.non from fun y => by cases y)]
    refine iteT ⟨tb1, fun H2 xN tb2 Q' => ⟨_, rfl, v, d, rfl, rd1.gr ((Dn.ext d1.st xN).gr d1.st), (fun e2 => by rw [e] at e2; cases e2), fun way2 e2 dd H3 r3 s3 ed3 wr3 => ?_⟩⟩
    rw [e] at e2
    cases e2
    refine ⟨dd, r3, way, rfl, rfl, ed3, wr3, wb, fun H4 s4 => ?_⟩
    have d2 := (Dn.of d1).trans (Dn.ext d1.st xN)
    have d4 := d2.trans (Dn.of ((Dw.refl d2.st).same (s3.trans s4)))
    have wr4 : WayR H4 (.ref wa) way := (WayR.gr ⟨wa, rfl, wea⟩ ((Dn.ext d1.st xN).gr d1.st)).gr (.of (s3.trans s4))
    have ht : (Str.ofString "generator ").length ≤ 100 := by decide +kernel
    refine ⟨_, rfl, .ref wa, wayD way, rfl, way_rep wr4, ow, bdd_mono bw (by omega), by omega, _, _, rfl, rfl, sizes' (by omega), rfl, ?_⟩
    rw [decide_eq_true (show V.str (Str.ofString "generator" ++ Str.ofString " " ++ shw (wayD way)) = V.str (Str.ofString "generator " ++ shw (wayD way)) by rw [show Str.ofString "generator" ++ Str.ofString " " = Str.ofString "generator " by decide +kernel])]
    exact q _ _ (d4.up (by omega)) (tb2.ext (s3.trans s4))
  | none =>
    rw [e] at wr
    obtain rfl : r = V.non := wr
    obtain ⟨ht, hcn⟩ := gw_fok e
    obtain ⟨hok, hsz⟩ := fok_sz 6 d ht
    have hbd : bdd 30 d = true := bdd_mono (bdd_fok 6 d ht) (by omega)
    have hsum := gws_sum ht hcn
    have hlen := gws_len ht hcn
    have hw := gtk_words 6 d ht
    have hll : (gtk 6 d).length = (gws 6 d).length := by rw [← hw, List.length_map]
    (refine ⟨_, rfl, rfl, _, rfl, ?_⟩)
    rw [decide_eq_true (show V.non = V.non from rfl)]
    refine iteF ⟨_, rfl, v, d, rfl, rd1, ht, hcn, fun H2 a s2 na ea => ?_⟩
    have nal := (d1.st.fresh na).2.1
    have d2 := d1.same s2
    have rd2 := rd1.same s2
    refine ⟨_, rfl, v, d, rfl, rd2, fun _ H3 s3 => ⟨_, rfl, a, gws 6 d, rfl, s3 _ _ ea, by omega, fun H4 s4 => ⟨rfl, _, rfl, ?_⟩⟩, fun way e2 => by rw [e] at e2; cases e2⟩
    rw [decide_eq_true rfl]
    refine iteF ⟨_, rfl, a, gws 6 d, rfl, s4 _ _ (s3 _ _ ea), by omega, fun H5 s5 => ?_⟩
    have s25 := (s3.trans s4).trans s5
    have d5 := d2.same s25
    refine ⟨_, rfl, _, rfl, z, k, a, gtk 6 d, rfl, by rw [hw]; exact s25 _ _ ea, nal, gtk_good 6 d ht, by omega, by rw [hw]; omega, d5.st, by omega, fun H6 k6 t d6 gap ltt => ⟨lsz, fun L hL => ?_⟩⟩
    have d7 := (d5.trans d6).new hL (o := .lst [.str (S (sprd (gws 6 d))), .str (S t)])
    have tb7 : LamX.Tabs (lamT P0 P1) (upd H6 L (.lst [.str (S (sprd (gws 6 d))), .str (S t)])) := (tabs_dw (tb1.ext (s2.trans s25)) d5.st d6).ext ((Same.refl H6).new hL)
    have rd7 : Rep (upd H6 L (.lst [.str (S (sprd (gws 6 d))), .str (S t)])) v d := (rd2.same s25).gr ((d6.gr d5.st).trans (.of ((Same.refl H6).new hL)))
    have eL : (upd H6 L (.lst [.str (S (sprd (gws 6 d))), .str (S t)])) L = some (.lst [.str (S (sprd (gws 6 d))), .str (S t)]) := upd_same
    generalize (upd H6 L (.lst [.str (S (sprd (gws 6 d))), .str (S t)])) = H7 at *
    have hsp : (sprd (gws 6 d)).length ≤ 1000000 := by have := sprd_len (gws 6 d); omega
    have item : ∀ (i : Nat) x, [V.str (S (sprd (gws 6 d))), V.str (S t)][i]? = some x → ∃ tt, x = .str (S tt) ∧ tt.length ≤ 1000000 ∧ toks tt = gtk 6 d := fun i x hx => by
      match i, hx with
      | 0, hx => cases hx; exact ⟨_, rfl, hsp, by rw [← hw]; exact toks_gap (gap_sprd (gtk_good 6 d ht))⟩
      | 1, hx => cases hx; exact ⟨_, rfl, ltt, toks_gap gap⟩
      | i + 2, hx => simp at hx
    refine ⟨_, rfl, L, rfl, ⟨_, sql eL⟩, fun D hD => lc_it (walk_list (xs := [V.str (S (sprd (gws 6 d))), V.str (S t)])) (fun i H' => Same H7 H' ∧ H' D = some (.lst [])) ⟨(Same.refl _).new hD, upd_same⟩ (fun i H' _ p => sql (p.1 _ _ eL)) ?_ ?_⟩
    · rintro i x H8 H9 hi ⟨s8, e8⟩ ⟨rfl, hx⟩
      obtain ⟨tt, rfl, hl, htk⟩ := item i x hx
      have hls : (S tt).length ≤ sizeLine := by rw [S_len tt]; exact sizes' hl
      refine ⟨rfl, _, rfl, .str (S tt), tt.length, rfl, ⟨hls, (S_len tt).symm⟩, ?_⟩
      refine ⟨_, _, rfl, rfl, ?_⟩
      generalize hb : (fun i j : Int => V.bl (decide (i < j))) (tt.length : Int) 30001 = vb
      obtain ⟨b, hb2, rfl⟩ : ∃ b : Bool, (b = true → (tt.length : Int) < 30001) ∧ vb = V.bl b := ⟨decide ((tt.length : Int) < 30001), of_decide_eq_true, hb.symm⟩
      clear hb
      refine ⟨b, rfl, ?_⟩
      cases b with
      | true =>
        have hs := hb2 rfl
        refine iteT ⟨_, rfl, tt, d, rfl, by omega, htk, e, fun H10 v2 s10 rv2 => ⟨v2, d, rfl, rv2, hok, hbd, by omega, _, rfl, v, d, rfl, rd7.same (s8.trans s10), hok, hbd, by omega, rfl, _, rfl, ?_⟩⟩
        rw [decide_eq_true rfl]
        exact iteF ⟨s8.trans s10, s10 _ _ e8⟩
      | false => exact iteF ⟨s8, e8⟩
    · rintro H8 ⟨s8, e8⟩
      refine ⟨lsz, fun q0 hq0 => ⟨D, q0, _, rfl, rfl, sql (up_ne e8 hq0), sql upd_same, ?_⟩⟩
      exact q _ _ (Dn.of (((d7.same s8).new hq0).up (by omega))) (tb7.ext (s8.new hq0))
end
end K6
set_option maxHeartbeats 4000001
namespace K6
open L2 PySem PySem.Spec PyProof.Rows
theorem tokS_up {β : Type} {ok : β → Bool} {sub : β → List β} : ∀ {n : Nat} {b : β}, tokS ok sub n b = true → tokS ok sub (n + 1) b = true ∧ cntS sub (n + 1) b = cntS sub n b
  | 0, b, h => by cases h
  | n + 1, b, h => by
    have h2 : (ok b && (sub b).all (tokS ok sub n)) = true := h
    rw [Bool.and_eq_true, List.all_eq_true] at h2
    have key : ∀ l : List β, (∀ c ∈ l, tokS ok sub n c = true) → (∀ c ∈ l, tokS ok sub (n + 1) c = true) ∧ (l.map (cntS sub (n + 1))).sum = (l.map (cntS sub n)).sum := by
      intro l
      induction l with
      | nil => intro _; exact ⟨(fun c hc => by cases hc), rfl⟩
      | cons c r ih =>
        intro hl
        obtain ⟨a1, a2⟩ := tokS_up (hl c (.head _))
        obtain ⟨b1, b2⟩ := ih fun e he => hl e (.tail _ he)
        refine ⟨fun e he => ?_, by rw [List.map_cons, List.sum_cons, List.map_cons, List.sum_cons, a2, b2]⟩
        (rcases List.mem_cons.mp he with rfl | he)
        · exact a1
        · exact b1 e he
    obtain ⟨k1, k2⟩ := key _ h2.2
    refine ⟨?_, ?_⟩
    · show (ok b && (sub b).all (tokS ok sub (n + 1))) = true
      rw [h2.1, Bool.true_and, List.all_eq_true]
      exact k1
    · show 1 + ((sub b).map (cntS sub (n + 1))).sum = 1 + ((sub b).map (cntS sub n)).sum
      rw [k2]
theorem vg_up {n m room : Nat} {b : GB} (v : VG n room b) (h : n ≤ m) : VG m room b := by
  induction h with
  | refl => exact v
  | step _ ih =>
    obtain ⟨h1, h2⟩ := tokS_up ih.1
    exact ⟨h1, by rw [h2]; exact ih.2⟩
def just5 : D := gnD "just" [.int 5]
theorem gw_just5 : gw just5 = none := by decide +kernel
theorem sprd_just5 : S (sprd (gws 6 just5)) = Str.ofString "just 5" := by decide +kernel
theorem len_just5 : (sprd (gws 6 just5)).length ≤ 30000 := by decide +kernel
end K6
set_option maxHeartbeats 8000000
namespace K6
open L2 PySem PySem.Spec PyProof.Rows
def sp_law (T : List (Addr × Str)) : Sp := fun vs H Q _ => ∃ (c : Addr) (o : Obj) (cells : List Int), vs = [.ref c] ∧ H c = some (.frz o (.lst (cells.map V.int))) ∧ cells.length ≤ 1000 ∧ LamX.Tabs T H ∧ ∀ H', Q (.bl true) H'
theorem Dn.tabs {T : List (Addr × Str)} {z : Sl} {c : Nat} {H H' : Hp} {k k' : Nat} (t : LamX.Tabs T H) (a : St z H k) (d : Dw z c H k H' k') : LamX.Tabs T H' := tabs_dw t a d
def cT : Nat := 1600000000
theorem good_of {d : D} (e : gw d = none) : fok 6 d = true ∧ gct 6 d ≤ 24 ∧ okS d = true ∧ bdd 26 d = true ∧ szB d ≤ 1440000 ∧ toks (sprd (gws 6 d)) = gtk 6 d ∧ ((gws 6 d).map fun w => w.length + 1).sum ≤ 844800 := by
  obtain ⟨ht, hcn⟩ := gw_fok e
  obtain ⟨hok, hsz⟩ := fok_sz 6 d ht
  refine ⟨ht, hcn, hok, bdd_fok 6 d ht, by omega, ?_, gws_sum ht hcn⟩
  rw [← gtk_words 6 d ht]
  exact toks_gap (gap_sprd (gtk_good 6 d ht))
section
variable {P : Program} {w : World} {K : PySem.W.Frag} {mg : Str → Option Value} {base : Heap} {TL : List (Addr × Str)}
abbrev s_law : Stmt := top 121
abbrev N_law : List Str := ["_law_script", "_law_state", "_law_before", "_law_turn", "_law_thing_here", "_law_generator_here", "_law_text"]
theorem sc_law : FnScope N_law ["_law_script"] (defScope s_law) := ⟨rfl, rfl, rfl, by decide +kernel, rfl, by decide +kernel, by decide +kernel⟩
theorem cl_law (F : Df K mg "law" s_law ["_law_script"]) (T : Tx mg)
    (c__law_begun : Cl P w K mg base 1 "_law_begun" sp_begun) (c__law_small : Cl P w K mg base 11 "_law_small" sp_small) (c__law_generator : Cl P w K mg base 18 "_law_generator" (sp_lgen 5)) (c__law_draw : Cl P w K mg base 2 "_law_draw" sp_draw)
    (c__law_thing_right : ClG P w K mg base 12 "_law_thing_right" (sp_tright TL)) (c__law_generator_right : ClG P w K mg base 26 "_law_generator_right" (sp_gright TL)) (c__law_words : Cl P w K mg base 14 "_law_words" (sp_gw 6)) (c__law_spread : Cl P w K mg base 1 "_law_spread" sp_spread)
    (c_read_generator : Cl P w K mg base 25 "read_generator" sp_read_gen) (c__law_bent : Cl P w K mg base 30 "_law_bent" (sp_bent 26)) : ClG P w K mg base 31 "law" (sp_law TL) := by
  refine F.clG sc_law (fun vs H Q E h => by obtain ⟨_, _, _, rfl, _⟩ := h; rfl) (fun f cdv A outer s H vs Q E _ hr hg h => ?_)
  have nd := sc_law.nd
  obtain ⟨c, oc, cells, rfl, ec, hc, tb, q⟩ := h
  refine ⟨_, (pss_cons (pset 1 nd (pf c__law_begun hr (by omega) rfl (pa_cons (pv 0) pa_nil)))
    (pss_cons (pset 2 nd (pe_tup (pa_cons pe_str (pa_cons (pe_tup (pa_cons pe_str (pa_cons pe_int pa_nil))) pa_nil))))
    (pss_cons (ps_for (passes_of rfl) rfl (pi_range1 rfl T.n_range (pa_cons (pe_op op_add pe_int (pe_callB (call_min2 rfl) rfl T.n_min bb_min (pa_cons pe_int (pa_cons (pe_callB (call_lenK K) rfl T.n_len PySem.boot_len (pa_cons (pv 0) pa_nil)) pa_nil)))) pa_nil)) (pgn 3 nd) (pss_cons (pset 4 nd (pf c__law_small hr (by omega) rfl (pa_cons (pv 1) (pa_cons pe_int pa_nil))))
      (pss_cons (pset 5 nd (pf c__law_generator hr (by omega) rfl (pa_cons (pv 1) (pa_cons (pe_op op_add pe_int (pf c__law_draw hr (by omega) rfl (pa_cons (pv 1) (pa_cons pe_int pa_nil)))) (pa_cons (pf c__law_draw hr (by omega) rfl (pa_cons (pv 1) (pa_cons pe_int pa_nil))) (pa_cons (pe_lst pa_nil) (pa_cons pe_bl pa_nil)))))))
      (pss_cons (ps_if (PW.pt (pw_or (pt_not (pt_val (pg c__law_thing_right hg hr (by omega) rfl (pa_cons (pv 1) (pa_cons (pv 4) pa_nil))))) (pw_or1 (pt_not (pt_val (pg c__law_generator_right hg hr (by omega) rfl (pa_cons (pv 1) (pa_cons (pv 5) pa_nil)))))))) (pss_one (ps_ret pe_bl)) pss_nil)
      (pss_cons (pset 6 nd (pf c__law_spread hr (by omega) rfl (pa_cons (pf c__law_words hr (by omega) rfl (pa_cons (pv 5) pa_nil)) pa_nil)))
      (pss_cons (ps_if (PW.pt (pw_or (pt_cmpR op_ne (pe_callB (call_reprD hg hr.u60) rfl T.n_repr bb_repr (pa_cons (pf c_read_generator hr (by omega) rfl (pa_cons (pe_ix (ix_tupK K) (pv 2) pe_int (fun _ _ => rfl)) pa_nil)) pa_nil)) (pe_callB (call_reprD hg hr.u60) rfl T.n_repr bb_repr (pa_cons (pe_ix (ix_tupK K) (pv 2) pe_int (fun _ _ => rfl)) pa_nil)) (nomark _)) (pw_or1 (pt_cmpR op_ne (pe_cmpR op_eq (pv 6) (pe_ix (ix_tupK K) (pv 2) pe_int (fun _ _ => rfl)) (nomark _)) (pe_cmpR (op_eqG hr.u60) (pv 5) (pe_ix (ix_tupK K) (pv 2) pe_int (fun _ _ => rfl)) (nomark _)) (nomark _))))) (pss_one (ps_ret pe_bl)) pss_nil)
      (pss_cons (ps_if (pt_not (pt_val (pg c__law_thing_right hg hr (by omega) rfl (pa_cons (pv 1) (pa_cons (pf c__law_bent hr (by omega) rfl (pa_cons (pv 1) (pa_cons (pv 4) pa_nil))) pa_nil))))) (pss_one (ps_ret pe_bl)) pss_nil)
      (pss_cons (ps_if (pt_not (pt_val (pg c__law_generator_right hg hr (by omega) rfl (pa_cons (pv 1) (pa_cons (pf c__law_bent hr (by omega) rfl (pa_cons (pv 1) (pa_cons (pv 5) pa_nil))) pa_nil))))) (pss_one (ps_ret pe_bl)) pss_nil)
      (pss_one (pset 2 nd (pe_ifExp (pt_cmpR op_lt (pe_callB (call_lenK K) rfl T.n_len PySem.boot_len (pa_cons (pv 6) pa_nil)) pe_int (nomark _)) (pe_tup (pa_cons (pv 6) (pa_cons (pv 5) pa_nil))) (pv 2))))))))))))
    (pss_one (ps_ret pe_bl))))), ?_⟩
  refine ⟨_, rfl, c, oc, cells, rfl, ec, hc, fun z H1 s1 st1 => ?_⟩
  refine ⟨lsz, fun t1 ht1 => ⟨lsz, fun t2 ht2 => ?_⟩⟩
  have ec1 := s1 _ _ ec
  have tb1 := tb.ext s1
  have sb : Same H1 (upd (upd H1 t1 (.tup [.str "just", .int 5])) t2 (.tup [.str "just 5", .ref t1])) := ((Same.refl H1).new ht1).new ht2
  have rj : Rep (upd (upd H1 t1 (.tup [.str "just", .int 5])) t2 (.tup [.str "just 5", .ref t1])) (.ref t1) just5 := (rep2 (s := "just") upd_same (.int 5)).same ((Same.refl _).new ht2)
  have ej : (upd (upd H1 t1 (.tup [.str "just", .int 5])) t2 (.tup [.str "just 5", .ref t1])) t2 = some (.tup [.str (S (sprd (gws 6 just5))), .ref t1]) := by
    rw [sprd_just5]
    exact upd_same
  have stb := st1.same sb
  have tbb := tb1.ext sb
  have ecb := sb _ _ ec1
  generalize (upd (upd H1 t1 (.tup [.str "just", .int 5])) t2 (.tup [.str "just 5", .ref t1])) = H2 at *
  obtain ⟨m, em, hm⟩ : ∃ m : Nat, (1 + (if (((cells.map V.int).length : Nat) : Int) < 15 then (((cells.map V.int).length : Nat) : Int) else 15)) = (m : Int) ∧ m ≤ 16 := by
    split
    · rename_i hlt
      exact ⟨1 + (cells.map V.int).length, by omega, by omega⟩
    · exact ⟨16, rfl, by omega⟩
  have cSv : cS = 15100 := rfl
  have cTv : cT = 1600000000 := rfl
  have KMv : KM = 1000000000000000 := rfl
  have gCm : ∀ n, n ≤ 5 → gC n ≤ 1500000000 := by decide
  refine ⟨_, rfl, .ref c, _, rfl, .inl ⟨_, sqf ecb, rfl⟩, _, _, rfl, _, _, rfl, rfl, _, rfl, ?_, ?_, ?_⟩
  · rw [em]; omega
  · rw [em]; omega
  rw [em, Int.toNat_natCast]
  refine for_it (walk_range (lo := 0) (n := m)) (fun i σ' H' => ∃ (k' : Nat) (p : Addr) (bv : V) (bd : D) (x3 x4 x5 x6 : Option V), σ' = [some (.ref c), some (.ref z.s), some (.ref p), x3, x4, x5, x6] ∧ Dn z (i * cT) H2 0 H' k' ∧ LamX.Tabs TL H' ∧ H' p = some (.tup [.str (S (sprd (gws 6 bd))), bv]) ∧ Rep H' bv bd ∧ gw bd = none ∧ (sprd (gws 6 bd)).length ≤ 30000)
    ⟨0, t2, .ref t1, just5, none, none, none, none, rfl, (Dn.of (Dw.refl stb)).up (Nat.zero_le _), tbb, ej, rj, gw_just5, len_just5⟩ (fun _ _ _ _ _ => trivial) ?_ ?_
  · rintro i x σ' H3' H3 hi ⟨k3, p, bv, bd, x3, x4, x5, x6, rfl, d3, tb3, ep, rb, gb, lb⟩ ⟨rfl, hx⟩
    have k3le := d3.le
    have him : i * cT ≤ 15 * cT := Nat.mul_le_mul_right _ (by omega)
    obtain ⟨fb1, fb2, ob, bb, zb, tkb, smb⟩ := good_of gb
    refine ⟨_, rfl, z, k3, 300, rfl, by decide, d3.st, by omega, fun H5 k5 tv td d5 rt st5 => ?_⟩
    have k5le := d5.le
    refine ⟨_, rfl, _, rfl, z, k5, _, rfl, d5.st, by omega, by decide, by decide, fun H6 i6 d6 a6 b6 => ⟨_, _, rfl, rfl, _, rfl, z, k5 + 1, _, rfl, d6.st, by omega, by decide, by decide, fun H7 i7 d7 a7 b7 => ⟨lsz, fun nl hnl => ?_⟩⟩⟩
    obtain ⟨r6, rfl⟩ : ∃ n : Nat, i6 = (n : Int) := ⟨i6.toNat, by omega⟩
    obtain ⟨n7, rfl⟩ : ∃ n : Nat, i7 = (n : Int) := ⟨i7.toNat, by omega⟩
    have gcn := gCm n7 (by omega)
    have d57 := (d5.trans (d6.trans d7)).new hnl (o := .lst [])
    have nll := (d7.st.fresh hnl).2.1
    refine ⟨z, k5 + 1 + 1, 1 + r6, n7, [], nl, false, ?_, by omega, by omega, by omega, by show 0 + n7 ≤ 10; omega, ⟨upd_same, nll, (fun y hy => by cases hy), Nat.zero_le _⟩, d57.st, by omega, fun H8 k8 gv gd8 d8 rg vg => ?_⟩
    · show [V.ref z.s, V.int (1 + (r6 : Int)), V.int (n7 : Int), V.ref nl, V.bl false] = _
      rw [show (1 + (r6 : Int)) = ((1 + r6 : Nat) : Int) by omega]
    have k8le := d8.le
    have gg : gw gd8 = none := gw_of (vg_up vg (by omega)) (by omega)
    obtain ⟨fg1, fg2, og, bg, zg, tkg, smg⟩ := good_of gg
    have w8 := d57.trans d8
    have w8le := w8.le
    have rt8 : Rep H8 tv td := rt.gr ((((d6.trans d7).new hnl (o := .lst [])).trans d8).gr d5.st)
    have e8 : Dn z (1500100000) H3 k3 H8 k8 := (Dn.of w8).up (by omega)
    have tb8 : LamX.Tabs TL H8 := tabs_dw tb3 d3.st w8
    refine ⟨_, rfl, _, rfl, z, k8, tv, td, rfl, rt8, d8.st, tb8, by omega, fun H9 k9 d9 tb9 => ⟨_, rfl, ?_⟩⟩
    have k9le := d9.le
    refine iteF ⟨_, rfl, _, rfl, z, k9, gv, gd8, rfl, rg.gr (d9.gr d8.st), d9.st, tb9, by omega, fun H10 k10 d10 tb10 => ⟨_, rfl, ?_⟩⟩
    have k10le := d10.le
    have e10 := (e8.trans d9).trans d10
    have g810 := (d9.trans d10).gr d8.st
    refine iteF ⟨_, rfl, gv, gd8, rfl, rg.gr g810, fg1, fg2, fun H11 a s11 na ea => ⟨a, gws 6 gd8, rfl, ea, by omega, fun H12 s12 => ?_⟩⟩
    have e12 : Dn z (1500100000 + 700 + 30010 + 0) H3 k3 H12 k10 := e10.trans (Dn.of ((Dw.refl d10.st).same (s11.trans s12)))
    have tb12 := tb10.ext (s11.trans s12)
    have g312 := e12.gr d3.st
    have g812 := g810.trans (.of (s11.trans s12))
    have ep12 := g312.1 _ _ ep
    have rb12 := rb.gr g312
    have rg12 := rg.gr g812
    have rt12 := rt8.gr g812
    refine ⟨_, rfl, p, _, _, _, rfl, rfl, sqt ep12, atI_nat (j := 0) rfl, _, bd, rfl, lb, tkb, gb, fun H13 rv s13 rrv => ⟨rv, bd, rfl, rrv, ob, bdd_mono bb (by omega), by omega, _, rfl, p, _, _, _, rfl, rfl, sqt (s13 _ _ ep12), atI_nat (j := 1) rfl, bv, bd, rfl, rb12.same s13, ob, bdd_mono bb (by omega), by omega, rfl, _, rfl, ?_⟩⟩
    rw [decide_eq_true rfl]
    refine iteF ⟨_, rfl, _, rfl, p, _, _, _, rfl, rfl, sqt (s13 _ _ ep12), atI_nat (j := 0) rfl, rfl, _, rfl, _, rfl, p, _, _, _, rfl, rfl, sqt (s13 _ _ ep12), atI_nat (j := 1) rfl, gd8, bd, rg12.same s13, rb12.same s13, og, ob, bdd_mono bg (by omega), bdd_mono bb (by omega), fun b hb => ⟨rfl, _, rfl, ?_⟩⟩
    have key : decide (V.str (S (sprd (gws 6 gd8))) = V.str (S (sprd (gws 6 bd)))) = b := by
      cases b with
      | true => rw [hb.mp rfl]; exact decide_eq_true rfl
      | false =>
        refine decide_eq_false fun y => ?_
        have := hb.mpr ((text_inj fg1 fb1).mp (S_inj' (V.str.inj y)))
        cases this
    rw [key, decide_eq_true rfl]
    have e13 := (e12.trans (Dn.of ((Dw.refl e12.st).same s13))).up (show _ ≤ 1500130710 by omega)
    have tb13 := tb12.ext s13
    have rg13 := rg12.same s13
    have rt13 := rt12.same s13
    have k13le := e13.le
    refine iteF ⟨_, rfl, _, rfl, _, rfl, z, k10, 6, tv, td, rfl, by omega, bdd_tok 6 td st5.1 (by have := st5.2; omega), rt13, e13.st, by omega, fun H14 k14 v14 b14 d14 r14 => ⟨z, k14, v14, b14, rfl, r14, d14.st, tabs_dw tb13 e13.st d14, ?_, fun H15 k15 d15 tb15 => ⟨_, rfl, ?_⟩⟩⟩
    · have := d14.le; omega
    have k14le := d14.le
    have k15le := d15.le
    have rg15 := rg13.gr ((d14.gr e13.st).trans (d15.gr d14.st))
    refine iteF ⟨_, rfl, _, rfl, _, rfl, z, k15, 26, gv, gd8, rfl, by omega, bg, rg15, d15.st, by omega, fun H16 k16 v16 b16 d16 r16 => ⟨z, k16, v16, b16, rfl, r16, d16.st, tabs_dw tb15 d15.st d16, ?_, fun H17 k17 d17 tb17 => ⟨_, rfl, ?_⟩⟩⟩
    · have := d16.le; omega
    have k16le := d16.le
    have k17le := d17.le
    have e17 : Dn z cT H3 k3 H17 k17 := (((((e13.trans (Dn.of d14)).trans d15).trans (Dn.of d16)).trans d17)).up (by omega)
    have g17 := (d16.gr d15.st).trans (d17.gr d16.st)
    have rg17 := rg15.gr g17
    have g317 := e17.gr d3.st
    have eall : Dn z ((i + 1) * cT) H2 0 H17 k17 := by rw [Nat.succ_mul]; exact d3.trans e17
    have lsg : (sprd (gws 6 gd8)).length ≤ 1000000 := by have := sprd_len (gws 6 gd8); omega
    refine iteF ⟨_, rfl, .str (S (sprd (gws 6 gd8))), (sprd (gws 6 gd8)).length, rfl, ⟨by rw [S_len]; exact sizes' lsg, (S_len _).symm⟩, _, _, rfl, rfl, ?_⟩
    generalize hb9 : (fun i j : Int => V.bl (decide (i < j))) ((sprd (gws 6 gd8)).length : Int) 30001 = vb
    obtain ⟨b, hb2, rfl⟩ : ∃ b : Bool, (b = true → ((sprd (gws 6 gd8)).length : Int) < 30001) ∧ vb = V.bl b := ⟨decide (((sprd (gws 6 gd8)).length : Int) < 30001), of_decide_eq_true, hb9.symm⟩
    clear hb9
    refine ⟨b, rfl, ?_⟩
    cases b with
    | true =>
      have hs := hb2 rfl
      refine iteT ⟨_, rfl, _, rfl, lsz, fun p2 hp2 => ?_⟩
      refine ⟨k17, p2, gv, gd8, _, _, _, _, rfl, ⟨fun b u n1 n2 t e => up_ne (eall.kp b u n1 n2 t e) hp2, eall.st.same ((Same.refl _).new hp2), eall.ge, eall.le⟩, tb17.ext ((Same.refl _).new hp2), upd_same, rg17.same ((Same.refl _).new hp2), gg, by omega⟩
    | false =>
      exact iteF ⟨_, rfl, k17, p, bv, bd, _, _, _, _, rfl, eall, tb17, g317.1 _ _ ep, rb.gr g317, gb, lb⟩
  · rintro σ' H3 ⟨k3, p, bv, bd, x3, x4, x5, x6, rfl, _⟩
    exact q H3
end
end K6
set_option maxHeartbeats 4000001
namespace K6
open L2 PySem PySem.Spec PyProof.Rows
def H0 (a : Addr) (o : Obj) (xs : List V) (ts : List Addr) : Hp := fun b => if b = a then some (.frz o (.lst xs)) else if b ∈ ts then some (.tbl #[]) else none
section
variable {a b : Addr} {o : Obj} {xs : List V} {ts : List Addr}
theorem H0_a : H0 a o xs ts a = some (.frz o (.lst xs)) := if_pos rfl
theorem H0_t (n : b ≠ a) (h : b ∈ ts) : H0 a o xs ts b = some (.tbl #[]) := (if_neg n).trans (if_pos h)
theorem H0_n (n : b ≠ a) (h : b ∉ ts) : H0 a o xs ts b = none := (if_neg n).trans (if_neg h)
end
theorem cx_no {P : Program} {w : World} {outer : List Env} {H : Hp} {s : Shared} {e : Value} {s' : Shared} (h : L2.CX P w outer H s (fun _ _ _ => False) e s') : False := by
  (obtain ⟨_, _, _, _, _, _, _, _, _, _, _, _, z⟩ := h)
  exact z
theorem law_end {P : Program} {w : World} {K : PySem.W.Frag} {mg mb : Str → Option Value} {k : Nat} {fa a : Addr} {cs : List (Addr × Addr)} {x : Str} {sp : Sp} {s1 : Shared} {vs : List Value} {ns : List Int} (KX : K.In s1.heap) (gns : s1.heap.Ns mainGlobals mg) (bns : s1.heap.Ns builtinsNs mb)
    (bbt : ∀ x : Str, x ≠ "__name__" → mb x = bootBuiltins x) (lim : s1.heap.NoLimit) (ngen : s1.gens = #[]) (tE : ∀ p ∈ cs, s1.heap.get? p.2 = some { cls := .none, data := .fields #[] }) (tK : ∀ p ∈ cs, K.lookup p.2 = none) (tC : ∀ p ∈ cs, PySem.W.CodeHd s1.heap p.1 p.2)
    (bm : ∃ (m : Addr) (om : Obj), mg "__builtins__" = some (.ref m) ∧ m ≠ builtinsNs ∧ s1.heap.get? m = some om ∧ om.cls = .type "module" ∧ om.dict = some builtinsNs ∧ om.data = .plain)
    (ea : s1.heap.get? a = some { cls := .type "list", data := .seq vs.toArray }) (ia : IntsAre vs ns) (la : ns.length ≤ sizeLine) (hr : Room k callerA) (noL : ∀ b u, K.lookup b = some u → u.cls ≠ .type "list") (mx : mg x = some (.ref fa))
    (F : ∀ base : Heap, K.In base → base.Ns mainGlobals mg → (∀ p ∈ cs, LamX.TabB base mg p.1 p.2) → ClG P w K mg base k x sp)
    (hsp : ∀ (H : Hp) (u : Obj), (∀ p ∈ cs, H p.2 = some (.tbl #[])) → H a = some (.frz u (.lst (ns.map V.int))) → sp [.ref a] H (fun v _ => v = .bl true) fun _ _ _ => False) :
    codeAny (model P w) callerA (.call (.ref fa) ⟨[.ref a], []⟩) (fun r s2 => r = .ok (.ret (.bool true)) ∧ OldK s1.heap s2.heap ∧ s2.os = s1.os ∧ AllBare s2.gens) s1 := by
  have va := vals_ints ia
  have lv := ia.length
  obtain ⟨ts, ets⟩ : ∃ ts, ts = cs.map (·.2) := ⟨_, rfl⟩
  have inT : ∀ p ∈ cs, p.2 ∈ ts := fun p hp => by rw [ets]; exact List.mem_map.mpr ⟨p, hp, rfl⟩
  have ofT : ∀ b ∈ ts, ∃ p ∈ cs, p.2 = b := fun b hb => by rw [ets] at hb; exact List.mem_map.mp hb
  have tab : ∀ b ∈ ts, s1.heap.get? b = some { cls := .none, data := .fields #[] } := fun b hb => by
    obtain ⟨p, hp, rfl⟩ := ofT b hb
    exact tE p hp
  have naT : a ∉ ts := fun hb => by
    have e2 := tab a hb
    rw [ea] at e2
    cases e2
  have kna : K.lookup a = none := by
    cases e : K.lookup a with
    | none => rfl
    | some u =>
      have e2 := KX a u e
      rw [ea] at e2
      exact absurd (by rw [← Option.some.inj e2]) (noL a u e)
  obtain ⟨H, eH⟩ : ∃ H, H = H0 a { cls := .type "list", data := .seq vs.toArray } (ns.map V.int) ts := ⟨_, rfl⟩
  have Ha : H a = some (.frz { cls := .type "list", data := .seq vs.toArray } (.lst (ns.map V.int))) := by rw [eH]; exact H0_a
  have Ht : ∀ b ∈ ts, H b = some (.tbl #[]) := fun b hb => by rw [eH]; exact H0_t (fun z => naT (z ▸ hb)) hb
  have Hn : ∀ b, b ≠ a → b ∉ ts → H b = none := fun b h1 h2 => by rw [eH]; exact H0_n h1 h2
  have ok0 : HOk P w H s1.heap := fun b u e => by
    by_cases h1 : b = a
    · subst h1
      rw [Ha] at e
      cases e
      exact ⟨ea, by rw [List.length_map]; exact la, vs, _, va, ea⟩
    · by_cases h2 : b ∈ ts
      · rw [Ht b h2] at e
        cases e
        exact tab b h2
      · rw [Hn b h1 h2] at e
        cases e
  have low : ∀ {b : Addr} {u : Obj}, s1.heap.get? b = some u → u.cls ≠ .type "list" → u.data ≠ .fields #[] → (hidT s1.heap H).get? b = some u := fun {b u} e n1 n2 => hidT_get e (Hn b (fun z => by
    subst z
    rw [ea] at e
    exact n1 (by rw [← Option.some.inj e])) fun z => by
    rw [tab b z] at e
    exact n2 (by rw [← Option.some.inj e]))
  have kb : K.In (hidT s1.heap H) := fun b u e => hidT_get (KX b u e) (Hn b (fun z => by rw [z, kna] at e; cases e) fun z => by
    obtain ⟨p, hp, rfl⟩ := ofT b z
    rw [tK p hp] at e
    cases e)
  have nsb : ∀ {b : Addr} {m : Str → Option Value}, s1.heap.Ns b m → (hidT s1.heap H).Ns b m := fun {b m} ⟨u, es, ep, e, d, r⟩ => ⟨u, es, ep, hidT_get e (Hn b (fun z => by
    subst z
    rw [ea] at e
    cases e
    cases d) fun z => by
    rw [tab b z] at e
    cases e
    cases d), d, r⟩
  have md : L2.Mod K mg (hidT s1.heap H) := ⟨kb, nsb gns, ⟨mb, nsb bns, bbt⟩, let ⟨mc, h1, h2⟩ := lim; ⟨mc, nsb h1, h2⟩⟩
  have tbs : ∀ p ∈ cs, LamX.TabB (hidT s1.heap H) mg p.1 p.2 := fun p hp => by
    obtain ⟨ug, _, _, eg, dg, _⟩ := id gns
    refine ⟨?_, ?_, fun z => ?_⟩
    · obtain ⟨u, us, file, tf, flags, tg, inF, text, tt, e1, r1, r2, r3, r4⟩ := tC p hp
      refine ⟨u, us, file, tf, flags, tg, inF, text, tt, hidT_get e1 (Hn _ (fun z => ?_) fun z => ?_), r1, r2, r3, r4⟩
      · rw [z, ea] at e1
        cases e1
        cases r2
      · rw [tab _ z] at e1
        cases e1
        cases r2
        simp at r3
    · obtain ⟨m, om, b1, b2, b3, b4, b5, b6⟩ := bm
      refine ⟨m, om, b1, b2, fun z => ?_, fun z => ?_, hidT_get b3 (Hn _ (fun z => ?_) fun z => ?_), b4, b5, b6⟩
      · rw [z, eg] at b3
        cases b3
        rw [dg] at b6
        cases b6
      · rw [z, tE p hp] at b3
        cases b3
        cases b6
      · rw [z, ea] at b3
        cases b3
        cases b6
      · rw [tab _ z] at b3
        cases b3
        cases b6
    · rw [z, tE p hp] at eg
      cases eg
      cases dg
  obtain ⟨f, fd, ps, len, run, m, kp, bd⟩ := (F _ kb (nsb gns) tbs).ex
  rw [mx] at m
  cases m
  have goal := hsp H _ (fun p hp => Ht _ (inT p hp)) Ha
  have l1 : [Value.ref a].length = ps.length := len _ _ _ _ goal
  have bd1 := bd s1 [.ref a] KX (by rw [List.append_nil]; exact l1)
  rw [List.append_nil] at bd1
  have e0 : Env0 P w K mg (hidT s1.heap H) callerA [] s1 H := ⟨rfl, md, fun b u e => of_hidT e, Nat.le_of_eq (hidT_size _ _), trivial, fun b hb => absurd (show b ∈ ([] : List Addr) from hb) (by simp), ok0, .of_eq ngen⟩
  refine codeAny_mono (run callerA [] s1 H ⟨[.ref a], []⟩ [.ref a] [.ref a] _ _ hr rfl e0 bd1 (.cons rfl .nil) goal) fun r s2 h => ?_
  rcases r with e | fl
  · exact (cx_no h).elim
  cases fl with
  | ret u =>
    obtain ⟨v, H2, os, bare, un, ok2, ru, qv⟩ := h
    obtain rfl : v = V.bl true := qv
    obtain rfl : u = Value.bool true := ru
    have same : ∀ b u, b ∉ ts → s1.heap.get? b = some u → s2.heap.get? b = some u := fun b u nb e => by
      by_cases h1 : b = a
      · subst h1
        have z2 := ok2 b _ (un.frzs b _ _ Ha)
        rw [ea] at e
        cases e
        exact z2.1
      · exact un.keep b u e (Hn b h1 nb) (fun z => absurd (show b ∈ ([] : List Addr) from z) (by simp)) (by simp)
    have more : ∀ b ∈ ts, ∃ l : Array Value, s2.heap.get? b = some { cls := .none, data := .fields l } := fun b hb => by
      obtain ⟨l, z⟩ := un.tbls b #[] (Ht b hb)
      exact ⟨_, ok2 b _ z⟩
    refine ⟨rfl, ⟨fun b u e => ?_, fun b u e => ?_⟩, os, bare⟩
    · by_cases hb : b ∈ ts
      · obtain ⟨p, hp, rfl⟩ := ofT b hb
        obtain ⟨l, hl⟩ := more _ hb
        rw [tE p hp] at e
        cases e
        exact .inr (.inl ⟨((tC p hp).tab (tE p hp)).isCodeTable, rfl, #[], l, rfl, by rw [Array.empty_append]; exact hl⟩)
      · exact .inl (same b u hb e)
    · by_cases hb : b ∈ ts
      · obtain ⟨l, hl⟩ := more _ hb
        exact ⟨_, hl⟩
      · exact ⟨u, same b u hb e⟩
  | _ => exact h.elim
def LawG (l : PySem.W.OpenLaw) (w : World) (K : PySem.W.Frag) (k n : Nat) (x : Str) (mg : Str → Option Value) (h : Heap) : Prop :=
  ∃ (cs : List (Addr × Addr)) (sp : Sp), (∀ b u, K.lookup b = some u → u.cls ≠ .type "list") ∧ (∀ p ∈ cs, h.get? p.2 = some { cls := .none, data := .fields #[] }) ∧ (∀ p ∈ cs, K.lookup p.2 = none) ∧ (∀ p ∈ cs, PySem.W.CodeHd h p.1 p.2) ∧
    (∀ (H : Hp) (u : Obj) (a : Addr) (ns : List Int), ns.length ≤ n → (∀ p ∈ cs, H p.2 = some (.tbl #[])) → H a = some (.frz u (.lst (ns.map V.int))) → sp [.ref a] H (fun v _ => v = .bl true) fun _ _ _ => False) ∧
    ∀ base : Heap, K.In base → base.Ns mainGlobals mg → (∀ p ∈ cs, LamX.TabB base mg p.1 p.2) → ClG l.prog w K mg base k x sp
theorem walk_ofG {l : PySem.W.OpenLaw} {n k : Nat} {q : Program} {loose : List Str} {XP : (Str → Option Value) → Heap → Prop} {YP : World → Heap → Prop} {d : DefRec} (hn : l.most = some n) (hn2 : n ≤ sizeLine) (hdf : d.params.defaults = []) (hr : Room k callerA)
    (F : ∀ (w : World) (mg : Str → Option Value) (fa : Addr) (h : Heap), YP w h → h.Ns mainGlobals mg → mg d.name = some (.ref fa) → ∃ K : PySem.W.Frag, K.In h ∧ LawG l w K k n d.name mg h) :
    PySem.W.WalkO q loose XP YP l.row.toRowW d []
        (fun f vs => PySem.call f vs) :=
  Att.attach_callB hn hdf fun w s₀ s₁ mg mb fa o pm cd doc a vs ns G Y ho hd hcd hmg hobj hints hlen hbits hg => by
    obtain ⟨K, KX, cs, sp, noL, hT, nT, C, hsp, hF⟩ := F w mg fa _ Y G.T.g hmg
    exact law_end KX G.T.g G.T.b G.T.builtins G.T.nolimit hg hT nT C G.T.bmain hobj hints (Nat.le_trans hlen hn2) hr noL hmg hF fun H u h1 h2 => hsp H u a ns hlen h1 h2
end K6
set_option maxHeartbeats 8000000
namespace K6
open L2 PySem PySem.Spec PyProof.Rows
structure Fx (K : PySem.W.Frag) (w : World) (mg : Str → Option Value) (C : Nat → Addr) (Cw aT aS aL c0 c1 : Addr) : Prop where
  T : Tx mg
  d_is_number : Df K mg "is_number" s_is_number ["thing"]
  d_is_name : Df K mg "is_name" s_is_name ["thing"]
  d_is_form : Df K mg "is_form" s_is_form ["thing"]
  d_first_bad : Df K mg "first_bad" s_first_bad ["thing", "most"]
  d__law_is_number : Df K mg "_law_is_number" s__law_is_number ["_law_thing_here"]
  d__law_is_name : Df K mg "_law_is_name" s__law_is_name ["_law_thing_here"]
  d_is_among : Df K mg "is_among" s_is_among ["thing", "least", "most"]
  d__law_among : Df K mg "_law_among" s__law_among ["_law_thing_here", "_law_least", "_law_most"]
  d_are_many : Df K mg "are_many" s_are_many ["thing", "least", "most"]
  d__law_are_many : Df K mg "_law_are_many" s__law_are_many ["_law_thing_here", "_law_least", "_law_most"]
  d_is_bound : Df K mg "is_bound" s_is_bound ["thing"]
  d__law_bad_thing : Df K mg "_law_bad_thing" s__law_bad_thing ["_law_thing_here", "_law_most", "_law_bound"]
  d_is_own : Df K mg "is_own" s_is_own ["thing"]
  d__law_is_own : Df K mg "_law_is_own" s__law_is_own ["_law_thing_here"]
  d_is_span : Df K mg "is_span" s_is_span ["thing"]
  d_are_pairs : Df K mg "are_pairs" s_are_pairs ["thing"]
  d_has_leaf_form : Df K mg "has_leaf_form" s_has_leaf_form ["thing"]
  d_has_form : Df K mg "has_form" s_has_form ["thing"]
  w_TURNS : KTab K w mg "TURNS" (turnS.map Str.ofString) aT
  w_TESTS : KTab K w mg "TESTS" (testS.map Str.ofString) aS
  w_LENGTHS : WTab K w mg "LENGTHS" lensK aL
  d_own_parts : Df K mg "own_parts" s_own_parts ["generator"]
  d_stands : Df K mg "stands" s_stands ["generator", "names", "grows"]
  d_scoped_parts : Df K mg "scoped_parts" s_scoped_parts ["generator", "names", "grows"]
  x___init__0 : Mf K (C 0) "__init__" "BadThing.__init__" s_exi0 ["self", "place"]
  B_BadThing : Bx K mg "BadThing" (C 0)
  x___init__1 : Mf K (C 1) "__init__" "BadGenerator.__init__" s_exi1 ["self", "place"]
  B_BadGenerator : Bx K mg "BadGenerator" (C 1)
  d_walked : Df K mg "walked" s_walked ["thing"]
  d_need_thing : Df K mg "need_thing" s_need_thing ["thing"]
  d_need_generator : Df K mg "need_generator" s_need_generator ["thing"]
  d__law_own : Df K mg "_law_own" s__law_own ["_law_generator_here"]
  d__law_has_form : Df K mg "_law_has_form" s__law_has_form ["_law_thing_here"]
  d__law_place : Df K mg "_law_place" s__law_place ["_law_thing_here"]
  d_spread : Df K mg "spread" s_spread ["words"]
  d__law_spread : Df K mg "_law_spread" s__law_spread ["_law_words_here"]
  d_thing_words : Df K mg "thing_words" s_thing_words ["thing"]
  d__law_thing_words : Df K mg "_law_thing_words" s__law_thing_words ["_law_thing_here"]
  d_thing_text : Df K mg "thing_text" s_thing_text ["thing"]
  d_inner_words : Df K mg "inner_words" s_inner_words ["generator"]
  d_generator_words : Df K mg "generator_words" s_generator_words ["generator"]
  d_generator_text : Df K mg "generator_text" s_generator_text ["generator"]
  d__law_words : Df K mg "_law_words" s__law_words ["_law_generator_here"]
  d_run_from : Df K mg "run_from" s_run_from ["text", "at", "signs"]
  d_word_at : Df K mg "word_at" s_word_at ["text", "at", "signs"]
  d_words_of : DfD K mg "words_of" s_words_of ["text", "signs"] 1 [.str "()[]"]
  d_need_words : Df K mg "need_words" s_need_words ["text"]
  d_number_in : Df K mg "number_in" s_number_in ["word", "figures"]
  d_thing_in : Df K mg "thing_in" s_thing_in ["words", "at", "figures", "opened"]
  m_next_sort : Mf K Cw "next_sort" "WordReader.next_sort" s_next_sort ["self"]
  R : Rdr K mg Cw
  m_next_text : Mf K Cw "next_text" "WordReader.next_text" s_next_text ["self"]
  m_goes_past : Mf K Cw "goes_past" "WordReader.goes_past" s_goes_past ["self", "is_right"]
  m_a_number : Mf K Cw "a_number" "WordReader.a_number" s_a_number ["self", "least", "most"]
  m_a_name : Mf K Cw "a_name" "WordReader.a_name" s_a_name ["self"]
  m_one_word : Mf K Cw "one_word" "WordReader.one_word" s_one_word ["self", "words"]
  m_a_thing : Mf K Cw "a_thing" "WordReader.a_thing" s_a_thing ["self"]
  m_inner : Mf K Cw "inner" "WordReader.inner" s_inner ["self"]
  m_things : Mf K Cw "things" "WordReader.things" s_things ["self"]
  m_inners : Mf K Cw "inners" "WordReader.inners" s_inners ["self"]
  m_pairs : Mf K Cw "pairs" "WordReader.pairs" s_pairs ["self"]
  m_rest_of : Mf K Cw "rest_of" "WordReader.rest_of" s_rest_of ["self", "word"]
  m_generator : Mf K Cw "generator" "WordReader.generator" s_generator ["self"]
  m___init__ : Mf K Cw "__init__" "WordReader.__init__" s___init__ ["self", "words"]
  d_generator_at : Df K mg "generator_at" s_generator_at ["words", "at", "opened"]
  d_read_generator : Df K mg "read_generator" s_read_generator ["text"]
  d_read_thing : Df K mg "read_thing" s_read_thing ["text"]
  d__law_mixed : Df K mg "_law_mixed" s__law_mixed ["_law_cell", "_law_k"]
  d__law_draw : Df K mg "_law_draw" s__law_draw ["_law_state", "_law_many_here"]
  d__law_one : Df K mg "_law_one" s__law_one ["_law_state", "_law_things"]
  d__law_word : Df K mg "_law_word" s__law_word ["_law_state"]
  d__law_number : Df K mg "_law_number" s__law_number ["_law_state"]
  d__law_thing : Df K mg "_law_thing" s__law_thing ["_law_state", "_law_deep"]
  d__law_many : Df K mg "_law_many" s__law_many ["_law_thing_here"]
  d__law_small : Df K mg "_law_small" s__law_small ["_law_state", "_law_most"]
  d__law_begun : Df K mg "_law_begun" s__law_begun ["_law_script"]
  d__law_rooms : Df K mg "_law_rooms" s__law_rooms ["_law_state", "_law_room", "_law_many_here"]
  d__law_leaf : Df K mg "_law_leaf" s__law_leaf ["_law_state", "_law_names", "_law_grows"]
  d__law_generator : Df K mg "_law_generator" s__law_generator ["_law_state", "_law_room", "_law_deep", "_law_names", "_law_grows"]
  d__law_bent : Df K mg "_law_bent" s__law_bent ["_law_state", "_law_thing_here"]
  d__law_loose : Df K mg "_law_loose" s__law_loose ["_law_state", "_law_words_here"]
  d__law_thing_right : DfT K mg "_law_thing_right" s__law_thing_right ["_law_state", "_law_thing_here"] c0
  d__law_refused : Df K mg "_law_refused" s__law_refused ["_law_deed"]
  Z : Rz K mg C
  d__law_generator_right : DfT K mg "_law_generator_right" s__law_generator_right ["_law_state", "_law_generator_here"] c1
  d_law : Df K mg "law" s_law ["_law_script"]
section
variable {P : Program} {w : World} {K : PySem.W.Frag} {mg : Str → Option Value} {base : Heap} {C : Nat → Addr} {Cw aT aS aL c0 c1 P0 P1 : Addr}
theorem law_of (fx : Fx K w mg C Cw aT aS aL c0 c1) (TB0 : LamX.TabB base mg c0 P0) (TB1 : LamX.TabB base mg c1 P1) (hP : P0 ≠ P1) : ClG P w K mg base 31 "law" (sp_law (lamT P0 P1)) := by
  have c_is_number : Cl P w K mg base 1 "is_number" (spB isNum) := cl_is_number (P := P) (w := w) (base := base) fx.d_is_number fx.T
  have c_is_name : Cl P w K mg base 1 "is_name" (spB isName) := cl_is_name (P := P) (w := w) (base := base) fx.d_is_name fx.T
  have c_is_form : Cl P w K mg base 2 "is_form" (spB (gd (10 ^ 60))) := cl_is_form (P := P) (w := w) (base := base) fx.d_is_form fx.T c_is_number c_is_name
  have c_first_bad : Cl P w K mg base 3 "first_bad" sp_first_bad := cl_first_bad (P := P) (w := w) (base := base) fx.d_first_bad fx.T c_is_form
  have c__law_is_number : Cl P w K mg base 1 "_law_is_number" (spB isNum) := cl__law_is_number (P := P) (w := w) (base := base) fx.d__law_is_number fx.T
  have c__law_is_name : Cl P w K mg base 1 "_law_is_name" (spB isName) := cl__law_is_name (P := P) (w := w) (base := base) fx.d__law_is_name fx.T
  have c_is_among : Cl P w K mg base 2 "is_among" sp_among := cl_is_among (P := P) (w := w) (base := base) fx.d_is_among fx.T c_is_number
  have c__law_among : Cl P w K mg base 2 "_law_among" sp_among := cl__law_among (P := P) (w := w) (base := base) fx.d__law_among fx.T c__law_is_number
  have c_are_many : Cl P w K mg base 1 "are_many" sp_many := cl_are_many (P := P) (w := w) (base := base) fx.d_are_many fx.T
  have c__law_are_many : Cl P w K mg base 1 "_law_are_many" sp_many := cl__law_are_many (P := P) (w := w) (base := base) fx.d__law_are_many fx.T
  have c_is_bound : Cl P w K mg base 2 "is_bound" (spB bnd) := cl_is_bound (P := P) (w := w) (base := base) fx.d_is_bound fx.T c_is_number
  have c__law_bad_thing : Cl P w K mg base 2 "_law_bad_thing" sp_bad_thing := cl__law_bad_thing (P := P) (w := w) (base := base) fx.d__law_bad_thing fx.T c__law_is_number c__law_is_name
  have c_is_own : Cl P w K mg base 4 "is_own" (spB own) := cl_is_own (P := P) (w := w) (base := base) fx.d_is_own fx.T c_is_number c_is_bound c_first_bad
  have c__law_is_own : Cl P w K mg base 3 "_law_is_own" (spB own) := cl__law_is_own (P := P) (w := w) (base := base) fx.d__law_is_own fx.T c__law_bad_thing
  have c_is_span : Cl P w K mg base 3 "is_span" sp_span := cl_is_span (P := P) (w := w) (base := base) fx.d_is_span fx.T c_is_bound
  have c_are_pairs : Cl P w K mg base 3 "are_pairs" (spB pairsOk) := cl_are_pairs (P := P) (w := w) (base := base) fx.d_are_pairs fx.T c_are_many c_is_among
  have c_has_leaf_form : Cl P w K mg base 5 "has_leaf_form" sp_leaf := cl_has_leaf_form (P := P) (w := w) (base := base) fx.d_has_leaf_form fx.T c_is_own c_are_many c_is_span c_is_name
  have c_has_form : Cl P w K mg base 6 "has_form" (spB hf) := cl_has_form (P := P) (w := w) (base := base) fx.d_has_form fx.T fx.w_TURNS fx.w_TESTS fx.w_LENGTHS c_are_pairs c_are_many c_is_among c_is_name c_has_leaf_form
  have c_own_parts : Cl P w K mg base 1 "own_parts" sp_own_parts := cl_own_parts (P := P) (w := w) (base := base) fx.d_own_parts fx.T
  have c_stands : Cl P w K mg base 1 "stands" sp_stands := cl_stands (P := P) (w := w) (base := base) fx.d_stands fx.T
  have c_scoped_parts : Cl P w K mg base 2 "scoped_parts" sp_scoped := cl_scoped_parts (P := P) (w := w) (base := base) fx.d_scoped_parts fx.T c_own_parts
  have i_exi0 : Cm P w K mg base 1 (C 0) "__init__" (sp_exi (C 0)) := cm_exi0 (P := P) (w := w) (base := base) fx.x___init__0 fx.T fx.B_BadThing
  have i_exi1 : Cm P w K mg base 1 (C 1) "__init__" (sp_exi (C 1)) := cm_exi1 (P := P) (w := w) (base := base) fx.x___init__1 fx.T fx.B_BadGenerator
  have c_walked : Cl P w K mg base 8 "walked" (sp_walked (C 1)) := cl_walked (P := P) (w := w) (base := base) fx.d_walked fx.T fx.B_BadGenerator (i_exi1.mono (by decide)) c_has_form c_stands c_scoped_parts
  have c_need_thing : Cl P w K mg base 4 "need_thing" (sp_need_thing (C 0)) := cl_need_thing (P := P) (w := w) (base := base) fx.d_need_thing fx.T fx.B_BadThing (i_exi0.mono (by decide)) c_first_bad
  have c_need_generator : Cl P w K mg base 9 "need_generator" (sp_need_generator (C 1)) := cl_need_generator (P := P) (w := w) (base := base) fx.d_need_generator fx.T c_walked
  have c__law_own : Cl P w K mg base 1 "_law_own" sp_own_parts := cl__law_own (P := P) (w := w) (base := base) fx.d__law_own fx.T
  have c__law_has_form : Cl P w K mg base 4 "_law_has_form" sp_lform := cl__law_has_form (P := P) (w := w) (base := base) fx.d__law_has_form fx.T c__law_are_many c__law_is_own c__law_among c__law_is_name
  have c__law_place : Cl P w K mg base 5 "_law_place" sp_place := cl__law_place (P := P) (w := w) (base := base) fx.d__law_place fx.T c__law_has_form c__law_own
  have c_spread : Cl P w K mg base 1 "spread" sp_spread := cl_spread (P := P) (w := w) (base := base) fx.d_spread fx.T
  have c__law_spread : Cl P w K mg base 1 "_law_spread" sp_spread := cl__law_spread (P := P) (w := w) (base := base) fx.d__law_spread fx.T
  have c_thing_words := cl_thing_words (P := P) (w := w) (base := base) fx.d_thing_words fx.T c_is_number 6
  have c__law_thing_words := cl__law_thing_words (P := P) (w := w) (base := base) fx.d__law_thing_words fx.T 6
  have c_thing_text : Cl P w K mg base 9 "thing_text" (sp_thing_text (C 0)) := cl_thing_text (P := P) (w := w) (base := base) fx.d_thing_text fx.T c_need_thing c_thing_words c_spread
  have c_generator_words := cl_generator_words (P := P) (w := w) (base := base) fx.d_generator_words fx.d_inner_words fx.T c_thing_words 6
  have c_generator_text : Cl P w K mg base 22 "generator_text" (sp_gen_text (C 1)) := cl_generator_text (P := P) (w := w) (base := base) fx.d_generator_text fx.T c_need_generator c_generator_words c_spread
  have c__law_words := cl__law_words (P := P) (w := w) (base := base) fx.d__law_words fx.T c__law_thing_words 6
  have c_run_from : Cl P w K mg base 1 "run_from" sp_run := cl_run_from (P := P) (w := w) (base := base) fx.d_run_from fx.T
  have c_word_at : Cl P w K mg base 2 "word_at" sp_word_at := cl_word_at (P := P) (w := w) (base := base) fx.d_word_at fx.T c_run_from
  have c_words_of : ClD P w K mg base 3 "words_of" sp_words_of [.str "()[]"] := cl_words_of (P := P) (w := w) (base := base) fx.d_words_of fx.T c_run_from c_word_at
  have c_need_words : Cl P w K mg base 4 "need_words" sp_need_words := cl_need_words (P := P) (w := w) (base := base) fx.d_need_words fx.T c_words_of
  have c_number_in : Cl P w K mg base 1 "number_in" sp_number_in := cl_number_in (P := P) (w := w) (base := base) fx.d_number_in fx.T
  have c_thing_in : Cl P w K mg base 2 "thing_in" sp_thing_in := cl_thing_in (P := P) (w := w) (base := base) fx.d_thing_in fx.T c_number_in c_is_name
  have m_next_sort : Cm P w K mg base 1 Cw "next_sort" (sp_next Cw nxS) := cm_next_sort (P := P) (w := w) (base := base) fx.m_next_sort fx.T fx.R
  have m_next_text : Cm P w K mg base 1 Cw "next_text" (sp_next Cw nxT) := cm_next_text (P := P) (w := w) (base := base) fx.m_next_text fx.T fx.R
  have m_goes_past : Cm P w K mg base 1 Cw "goes_past" (sp_past Cw) := cm_goes_past (P := P) (w := w) (base := base) fx.m_goes_past fx.T fx.R
  have m_a_number : Cm P w K mg base 2 Cw "a_number" (sp_a_number Cw) := cm_a_number (P := P) (w := w) (base := base) fx.m_a_number fx.T fx.R c_number_in m_goes_past
  have m_a_name : Cm P w K mg base 2 Cw "a_name" (sp_a_name Cw) := cm_a_name (P := P) (w := w) (base := base) fx.m_a_name fx.T fx.R c_is_name m_next_sort m_next_text m_goes_past
  have m_one_word : Cm P w K mg base 2 Cw "one_word" (sp_one_word Cw) := cm_one_word (P := P) (w := w) (base := base) fx.m_one_word fx.T fx.R m_next_sort m_next_text m_goes_past
  have m_a_thing : Cm P w K mg base 3 Cw "a_thing" (sp_a_thing Cw) := cm_a_thing (P := P) (w := w) (base := base) fx.m_a_thing fx.T fx.R c_thing_in
  have m_things : Cm P w K mg base 4 Cw "things" (sp_things Cw) := cm_things (P := P) (w := w) (base := base) fx.m_things fx.T fx.R m_next_sort m_next_text m_a_thing
  have m_generator := cm_generator (P := P) (w := w) (base := base) fx.m_generator fx.m_inner fx.m_inners fx.m_pairs fx.m_rest_of fx.T fx.R fx.w_TURNS fx.w_TESTS fx.w_LENGTHS m_next_sort m_next_text m_goes_past m_a_number m_a_name m_one_word m_a_thing m_things 6
  have m_winit : Cm P w K mg base 1 Cw "__init__" (sp_winit Cw) := cm_winit (P := P) (w := w) (base := base) fx.m___init__ fx.T fx.R
  have c_generator_at := cl_generator_at (P := P) (w := w) (base := base) fx.d_generator_at fx.T fx.R m_winit (by decide) m_generator
  have c_read_generator : Cl P w K mg base 25 "read_generator" sp_read_gen := cl_read_generator (P := P) (w := w) (base := base) fx.d_read_generator fx.T c_need_words c_generator_at c_need_generator
  have c_read_thing : Cl P w K mg base 5 "read_thing" sp_read_thing := cl_read_thing (P := P) (w := w) (base := base) fx.d_read_thing fx.T c_need_words c_thing_in c_need_thing
  have c__law_mixed : Cl P w K mg base 1 "_law_mixed" sp_mixed := cl__law_mixed (P := P) (w := w) (base := base) fx.d__law_mixed fx.T
  have c__law_draw : Cl P w K mg base 2 "_law_draw" sp_draw := cl__law_draw (P := P) (w := w) (base := base) fx.d__law_draw fx.T c__law_mixed
  have c__law_one : Cl P w K mg base 3 "_law_one" sp_one := cl__law_one (P := P) (w := w) (base := base) fx.d__law_one fx.T c__law_draw
  have c__law_oneS : Cl P w K mg base 3 "_law_one" sp_oneS := cl__law_oneS (P := P) (w := w) (base := base) fx.d__law_one fx.T c__law_draw
  have c__law_word : Cl P w K mg base 4 "_law_word" sp_word := cl__law_word (P := P) (w := w) (base := base) fx.d__law_word fx.T c__law_draw c__law_one c__law_oneS
  have c__law_number : Cl P w K mg base 4 "_law_number" sp_number := cl__law_number (P := P) (w := w) (base := base) fx.d__law_number fx.T c__law_draw c__law_one
  have c__law_thing := cl__law_thing (P := P) (w := w) (base := base) fx.d__law_thing fx.T c__law_draw c__law_word c__law_number 5
  have c__law_many := cl__law_many (P := P) (w := w) (base := base) fx.d__law_many fx.T 6
  have c__law_small : Cl P w K mg base 11 "_law_small" sp_small := cl__law_small (P := P) (w := w) (base := base) fx.d__law_small fx.T c__law_draw c__law_thing c__law_many
  have c__law_begun : Cl P w K mg base 1 "_law_begun" sp_begun := cl__law_begun (P := P) (w := w) (base := base) fx.d__law_begun fx.T
  have c__law_rooms : Cl P w K mg base 3 "_law_rooms" sp_rooms := cl__law_rooms (P := P) (w := w) (base := base) fx.d__law_rooms fx.T c__law_draw
  have c__law_leaf : Cl P w K mg base 12 "_law_leaf" sp_lleaf := cl__law_leaf (P := P) (w := w) (base := base) fx.d__law_leaf fx.T c__law_draw c__law_one c__law_number c__law_small
  have c__law_generator := cl__law_generator (P := P) (w := w) (base := base) fx.d__law_generator fx.T c__law_draw c__law_one c__law_word c__law_leaf c__law_rooms 5
  have c__law_bent := cl__law_bent (P := P) (w := w) (base := base) fx.d__law_bent fx.T c__law_draw c__law_one 26
  have c__law_loose : Cl P w K mg base 4 "_law_loose" sp_loose := cl__law_loose (P := P) (w := w) (base := base) fx.d__law_loose fx.T c__law_draw c__law_one
  have c__law_thing_right : ClG P w K mg base 12 "_law_thing_right" (sp_tright (lamT P0 P1)) := cl__law_thing_right (P := P) (w := w) (base := base) fx.d__law_thing_right fx.d__law_refused fx.T fx.Z TB0 hP c__law_bad_thing c__law_thing_words c_thing_text c__law_spread c__law_loose c_read_thing
  have c__law_generator_right : ClG P w K mg base 26 "_law_generator_right" (sp_gright (lamT P0 P1)) := cl__law_generator_right (P := P) (w := w) (base := base) fx.d__law_generator_right fx.d__law_refused fx.T fx.Z TB1 hP c__law_place c__law_words c_generator_text c__law_spread c__law_loose c_read_generator
  exact cl_law (P := P) (w := w) (base := base) fx.d_law fx.T c__law_begun c__law_small c__law_generator c__law_draw c__law_thing_right c__law_generator_right c__law_words c__law_spread c_read_generator c__law_bent
end
end K6
set_option maxHeartbeats 8000000
namespace K6
open L2 PySem PySem.Spec PyProof.Rows
theorem oexB_ok {K : PySem.W.Frag} {C : Addr} (h : oexB K C = true) : OexC K C := by
  unfold oexB at h
  split at h
  · rename_i t dd cd sl hk
    obtain ⟨h1, h2⟩ := He.ba h
    obtain ⟨ht, hm⟩ := He.ba h1
    obtain ⟨h3, h4⟩ := He.ba h2
    obtain ⟨h5, h6⟩ := He.ba h4
    obtain ⟨h7, h8⟩ := He.ba h6
    have et := of_decide_eq_true ht
    subst et
    split at hm
    · rename_i b bm k0 k1 k2 k3 n k5 em es
      obtain ⟨m1, m2⟩ := He.ba hm
      obtain ⟨m3, m4⟩ := He.ba m2
      obtain ⟨m5, m6⟩ := He.ba m4
      obtain ⟨m7, m8⟩ := He.ba m6
      have eb := of_decide_eq_true m1
      have en := of_decide_eq_true m3
      subst eb en
      (obtain ⟨nm, bs, mro, ns, qn, hd, sn, sub, ab, col, del⟩ := cd)
      dsimp only at em m5 m7
      have ed : del = false := by cases del with
        | false => rfl
        | true => cases m7
      subst em m5 ed
      obtain ⟨l⟩ := sl
      dsimp only at es
      subst es
      exact ⟨⟨nm, qn, ns, bs, bm, sn, sub, ab, col, dd, k0, k1, k2, k3, k5, hk, m8⟩, He.eqO_ok h3, of_decide_eq_true h5, of_decide_eq_true h7, h8⟩
    · cases hm
  · cases h
theorem vVB_ok {K : PySem.W.Frag} (h : vVB K = true) : PySem.W.findCls K (.type "ValueError") (.type "type") "__init__" = some (.val (.builtin "ValueError.__init__")) := by
  unfold vVB at h
  split at h
  · rename_i b e
    rw [e, of_decide_eq_true h]
  · cases h
theorem xscB_ok {K : PySem.W.Frag} {C : Addr} (h : xscB K C = true) : XsC K C := by
  obtain ⟨h1, h⟩ := He.ba h
  obtain ⟨h2, h⟩ := He.ba h
  obtain ⟨h3, h⟩ := He.ba h
  obtain ⟨h4, h⟩ := He.ba h
  obtain ⟨h5, h⟩ := He.ba h
  obtain ⟨h6, h⟩ := He.ba h
  obtain ⟨h7, h⟩ := He.ba h
  obtain ⟨h8, h9⟩ := He.ba h
  exact ⟨h1, He.eqO_ok h2, He.eqO_ok h3, of_decide_eq_true h4, h5, He.eqO_ok h6, He.eqO_ok h7, of_decide_eq_true h8, of_decide_eq_true h9⟩
theorem noLst_ok {K : PySem.W.Frag} (h : noLst K = true) : ∀ b u, K.lookup b = some u → u.cls ≠ .type "list" := fun b u e z => by
  have h2 := List.all_eq_true.mp h _ (He.lookup_mem e)
  rw [decide_eq_true z] at h2
  cases h2
theorem ex_at {K : PySem.W.Frag} (h : exA K = true) (i : Nat) {f : PySem.W.Frag → Bool} (e : exs[i]? = some f := by rfl) : f K = true := List.all_eq_true.mp h f (List.mem_of_getElem? e)
theorem tab_at {K : PySem.W.Frag} {w : World} (c : He.SaysT fa fn tsL w K) (i : Nat) {t : He.Tab} (h : tsL[i]? = some t) : ∃ es n, KDict K w (t.1 K) es n ∧ es.toList.map He.keyOf = He.keysIn w.params t.2 := by
  have e : tsL.map (fun t => He.dicW K (t.1 K)) = tsL.map fun t => some (He.keysIn w.params t.2) := congrArg (fun z : He.AlT => z.2) c
  have e2 : (tsL.map fun t => He.dicW K (t.1 K))[i]? = (tsL.map fun t => some (He.keysIn w.params t.2))[i]? := by rw [e]
  (rw [List.getElem?_map, List.getElem?_map, h] at e2)
  have e3 : He.dicW K (t.1 K) = some (He.keysIn w.params t.2) := Option.some.inj e2
  obtain ⟨es, n, D⟩ := He.dicW_ok e3
  refine ⟨es, n, D, ?_⟩
  unfold He.dicW at e3
  rw [D.at_] at e3
  dsimp only at e3
  split at e3
  · exact Option.some.inj e3
  · cases e3
section
variable {K : PySem.W.Frag} {w : World} {h : Heap} {mg : Str → Option Value}
theorem cg (X : K.In h) (G : h.Ns mainGlobals mg) {x : Str} (c : (He.Fa.glo x).ok K = true) {st : Stmt} {ps : List Str} {d : He.DefD} (F : ∃ fd, FunD K d.name d.qual d.params d.body d.scope (d.dvs K) (d.kws K) (He.fAd K d.at_) fd) (hd : d = ⟨(x, none), x, x, defArgs st, defBody st, defScope st, [], []⟩)
    (b : ∀ (kV doc pm : Value) (an : Option Addr) (cdv ct : Value) (us : List Value), us.length = ps.length → bindArgs (PySem.W.fnOf x x (defArgs st) (defBody st) (defScope st) .none kV doc pm an cdv ct) ⟨us, []⟩ = pure (ps.zip us)) : Df K mg x st ps := by
  subst hd
  obtain ⟨fd, F⟩ := F
  exact ⟨⟨_, fd, F, He.glo_ok X G c⟩, b⟩
theorem cgT (X : K.In h) (G : h.Ns mainGlobals mg) {x : Str} (c : (He.Fa.glo x).ok K = true) {st : Stmt} {ps : List Str} {d : He.DefD} (F : ∃ fd, FunD K d.name d.qual d.params d.body d.scope (d.dvs K) (d.kws K) (He.fAd K d.at_) fd) (hd : d = ⟨(x, none), x, x, defArgs st, defBody st, defScope st, [], []⟩)
    (b : ∀ (kV doc pm : Value) (an : Option Addr) (cdv ct : Value) (us : List Value), us.length = ps.length → bindArgs (PySem.W.fnOf x x (defArgs st) (defBody st) (defScope st) .none kV doc pm an cdv ct) ⟨us, []⟩ = pure (ps.zip us)) : DfT K mg x st ps (He.cT K (x, none)).1 := by
  subst hd
  obtain ⟨fd, F⟩ := F
  obtain ⟨oc, od, dV, kV, doc, pm, an, cdv, ct, osl, e, lk, hcd, _, _⟩ := F.ex
  obtain ⟨c', ec⟩ := He.codeIn_ref hcd
  have e1 : fd.code = .ref c' := by rw [e]; exact ec
  have e2 : He.codeOf K (x, none) = c' := He.codeOf_eq lk e1
  exact ⟨⟨_, fd, F, by rw [e1]; exact congrArg Value.ref e2.symm, He.glo_ok X G c⟩, b⟩
theorem cm {C m q : Str} (c : (He.Fa.meth C m).ok K = true) {st : Stmt} {ps : List Str} {d : He.DefD} (F : ∃ fd, FunD K d.name d.qual d.params d.body d.scope (d.dvs K) (d.kws K) (He.fAd K d.at_) fd) (hd : d = ⟨(C, some m), m, q, defArgs st, defBody st, defScope st, [], []⟩)
    (b : ∀ (kV doc pm : Value) (an : Option Addr) (cdv ct : Value) (us : List Value), us.length = ps.length → bindArgs (PySem.W.fnOf m q (defArgs st) (defBody st) (defScope st) .none kV doc pm an cdv ct) ⟨us, []⟩ = pure (ps.zip us)) : Mf K (He.ga K C) m q st ps := by
  subst hd
  obtain ⟨fd, F⟩ := F
  obtain ⟨h1, h2⟩ := He.ba c
  obtain ⟨h3, h4⟩ := He.ba h2
  refine ⟨⟨_, fd, F, He.eqO_ok h1, ?_⟩, b⟩
  unfold PySem.W.isFn at h3
  exact eq_of_beq h3
theorem lens_ok {a : Addr} (h : He.valsB K a lensD = true) {q : Str × V} (hq : q ∈ lensK) : ∃ u, PySem.W.nsIn K a q.1 = some (some u) ∧ RelV q.2 u := by
  have e : lensK = lensD.map fun q => (q.1, q.2.v K) := rfl
  rw [e] at hq
  (obtain ⟨p, hp, rfl⟩ := List.mem_map.mp hq)
  exact He.valsB_ok h hp
theorem fx_of (X : K.In h) (G : h.Ns mainGlobals mg) (c : He.SaysX fa fn tsL tfL exA w h K) : Fx K w mg (excC K) (He.ga K "WordReader") (He.ga K "TURNS") (He.ga K "TESTS") (He.ga K "LENGTHS") (He.cT K dR0).1 (He.cT K dR1).1 := by
  have D := c.t.d
  have gl : ∀ {x : Str}, He.Fa.glo x ∈ fa → (He.Fa.glo x).ok K = true := fun hx => D.facts hx
  have ex : ∀ {f : PySem.W.Frag → Bool} (i : Nat), exs[i]? = some f → f K = true := fun i e => ex_at c.more i e
  have vT : Tx mg := ⟨He.free_ok X G (D.fact 0 (f := .free "isinstance") rfl),
    He.free_ok X G (D.fact 1 (f := .free "int") rfl),
    He.free_ok X G (D.fact 2 (f := .free "bool") rfl),
    He.free_ok X G (D.fact 3 (f := .free "str") rfl),
    He.free_ok X G (D.fact 4 (f := .free "tuple") rfl),
    He.free_ok X G (D.fact 5 (f := .free "list") rfl),
    He.free_ok X G (D.fact 6 (f := .free "len") rfl),
    He.free_ok X G (D.fact 7 (f := .free "all") rfl),
    He.free_ok X G (D.fact 8 (f := .free "reversed") rfl),
    He.free_ok X G (D.fact 9 (f := .free "range") rfl),
    He.free_ok X G (D.fact 10 (f := .free "min") rfl),
    He.free_ok X G (D.fact 11 (f := .free "abs") rfl),
    He.free_ok X G (D.fact 12 (f := .free "sum") rfl),
    He.free_ok X G (D.fact 13 (f := .free "enumerate") rfl),
    He.free_ok X G (D.fact 14 (f := .free "repr") rfl),
    He.free_ok X G (D.fact 15 (f := .free "ValueError") rfl),
    He.free_ok X G (D.fact 16 (f := .free "OverflowError") rfl),
    He.free_ok X G (D.fact 17 (f := .free "LookupError") rfl),
    (let ⟨t, e⟩ := He.int_ok X G (D.fact 18 (f := .int "MOST_LETTERS" 8) rfl); ⟨_, e, t, rfl⟩),
    (let ⟨t, e⟩ := He.int_ok X G (D.fact 19 (f := .int "MOST_OPENED" 40) rfl); ⟨_, e, t, rfl⟩),
    (let ⟨t, e⟩ := He.int_ok X G (D.fact 20 (f := .int "MOST_THINGS" 300) rfl); ⟨_, e, t, rfl⟩),
    (let ⟨t, e⟩ := He.int_ok X G (D.fact 21 (f := .int "MOST_DEEP" 5) rfl); ⟨_, e, t, rfl⟩),
    (let ⟨t, e⟩ := He.int_ok X G (D.fact 22 (f := .int "MOST_FIGURES_things" 60) rfl); ⟨_, e, t, rfl⟩),
    (let ⟨t, e⟩ := He.int_ok X G (D.fact 23 (f := .int "MOST_SIGNS" 30000) rfl); ⟨_, e, t, rfl⟩),
    (let ⟨t, e⟩ := He.int_ok X G (D.fact 24 (f := .int "MOST_PARTS" 24) rfl); ⟨_, e, t, rfl⟩),
    (let ⟨t, e⟩ := He.int_ok X G (D.fact 25 (f := .int "MOST_WITHIN" 5) rfl); ⟨_, e, t, rfl⟩),
    (let ⟨t, e⟩ := He.int_ok X G (D.fact 26 (f := .int "MOST_OWN" 60) rfl); ⟨_, e, t, rfl⟩),
    (let ⟨t, e⟩ := He.int_ok X G (D.fact 27 (f := .int "MOST_SPAN" 99) rfl); ⟨_, e, t, rfl⟩),
    (let ⟨t, e⟩ := He.int_ok X G (D.fact 28 (f := .int "MOST_WEIGHT" 9) rfl); ⟨_, e, t, rfl⟩),
    (let ⟨t, e⟩ := He.int_ok X G (D.fact 29 (f := .int "MOST_SOME" 9) rfl); ⟨_, e, t, rfl⟩),
    (let ⟨t, e⟩ := He.int_ok X G (D.fact 30 (f := .int "MOST_JOINED" 6) rfl); ⟨_, e, t, rfl⟩),
    (let ⟨t, e⟩ := He.int_ok X G (D.fact 31 (f := .int "MOST_MORE" 3) rfl); ⟨_, e, t, rfl⟩),
    (let ⟨t, e⟩ := He.int_ok X G (D.fact 32 (f := .int "MOST_FIGURES_gentexts" 30) rfl); ⟨_, e, t, rfl⟩),
    (let ⟨t, e⟩ := He.str_ok X G (D.fact 33 (f := .str "SMALL" "abcdefghijklmnopqrstuvwxyz") rfl); ⟨_, e, t, rfl⟩),
    (let ⟨t, e⟩ := He.str_ok X G (D.fact 34 (f := .str "FIGURES" "0123456789") rfl); ⟨_, e, t, rfl⟩),
    (let ⟨t, e⟩ := He.str_ok X G (D.fact 35 (f := .str "SIGNS" "()[]") rfl); ⟨_, e, t, rfl⟩),
    (let ⟨t, e⟩ := He.str_ok X G (D.fact 36 (f := .str "RUN" "run") rfl); ⟨_, e, t, rfl⟩),
    (let ⟨t, e⟩ := He.str_ok X G (D.fact 37 (f := .str "NAME" "name") rfl); ⟨_, e, t, rfl⟩),
    (let ⟨t, e⟩ := He.str_ok X G (D.fact 38 (f := .str "NUMBER" "number") rfl); ⟨_, e, t, rfl⟩),
    (let ⟨t, e⟩ := He.str_ok X G (D.fact 39 (f := .str "SIGN" "sign") rfl); ⟨_, e, t, rfl⟩),
    (let ⟨t, e⟩ := He.str_ok X G (D.fact 40 (f := .str "ODD" "odd") rfl); ⟨_, e, t, rfl⟩)⟩
  have v_d_is_number : Df K mg "is_number" s_is_number ["thing"] := cg X G (D.fact 41 (f := .glo "is_number") rfl) (D.def_ 0 (d := dd0) rfl) rfl (fun _ _ _ _ _ _ us hl => match us, hl with | [_], _ => rfl)
  have v_d_is_name : Df K mg "is_name" s_is_name ["thing"] := cg X G (D.fact 42 (f := .glo "is_name") rfl) (D.def_ 1 (d := dd1) rfl) rfl (fun _ _ _ _ _ _ us hl => match us, hl with | [_], _ => rfl)
  have v_d_is_form : Df K mg "is_form" s_is_form ["thing"] := cg X G (D.fact 43 (f := .glo "is_form") rfl) (D.def_ 2 (d := dd2) rfl) rfl (fun _ _ _ _ _ _ us hl => match us, hl with | [_], _ => rfl)
  have v_d_first_bad : Df K mg "first_bad" s_first_bad ["thing", "most"] := cg X G (D.fact 44 (f := .glo "first_bad") rfl) (D.def_ 3 (d := dd3) rfl) rfl (fun _ _ _ _ _ _ us hl => match us, hl with | [_, _], _ => rfl)
  have v_d__law_is_number : Df K mg "_law_is_number" s__law_is_number ["_law_thing_here"] := cg X G (D.fact 45 (f := .glo "_law_is_number") rfl) (D.def_ 4 (d := dd4) rfl) rfl (fun _ _ _ _ _ _ us hl => match us, hl with | [_], _ => rfl)
  have v_d__law_is_name : Df K mg "_law_is_name" s__law_is_name ["_law_thing_here"] := cg X G (D.fact 46 (f := .glo "_law_is_name") rfl) (D.def_ 5 (d := dd5) rfl) rfl (fun _ _ _ _ _ _ us hl => match us, hl with | [_], _ => rfl)
  have v_d_is_among : Df K mg "is_among" s_is_among ["thing", "least", "most"] := cg X G (D.fact 47 (f := .glo "is_among") rfl) (D.def_ 6 (d := dd6) rfl) rfl (fun _ _ _ _ _ _ us hl => match us, hl with | [_, _, _], _ => rfl)
  have v_d__law_among : Df K mg "_law_among" s__law_among ["_law_thing_here", "_law_least", "_law_most"] := cg X G (D.fact 48 (f := .glo "_law_among") rfl) (D.def_ 7 (d := dd7) rfl) rfl (fun _ _ _ _ _ _ us hl => match us, hl with | [_, _, _], _ => rfl)
  have v_d_are_many : Df K mg "are_many" s_are_many ["thing", "least", "most"] := cg X G (D.fact 49 (f := .glo "are_many") rfl) (D.def_ 8 (d := dd8) rfl) rfl (fun _ _ _ _ _ _ us hl => match us, hl with | [_, _, _], _ => rfl)
  have v_d__law_are_many : Df K mg "_law_are_many" s__law_are_many ["_law_thing_here", "_law_least", "_law_most"] := cg X G (D.fact 50 (f := .glo "_law_are_many") rfl) (D.def_ 9 (d := dd9) rfl) rfl (fun _ _ _ _ _ _ us hl => match us, hl with | [_, _, _], _ => rfl)
  have v_d_is_bound : Df K mg "is_bound" s_is_bound ["thing"] := cg X G (D.fact 51 (f := .glo "is_bound") rfl) (D.def_ 10 (d := dd10) rfl) rfl (fun _ _ _ _ _ _ us hl => match us, hl with | [_], _ => rfl)
  have v_d__law_bad_thing : Df K mg "_law_bad_thing" s__law_bad_thing ["_law_thing_here", "_law_most", "_law_bound"] := cg X G (D.fact 52 (f := .glo "_law_bad_thing") rfl) (D.def_ 11 (d := dd11) rfl) rfl (fun _ _ _ _ _ _ us hl => match us, hl with | [_, _, _], _ => rfl)
  have v_d_is_own : Df K mg "is_own" s_is_own ["thing"] := cg X G (D.fact 53 (f := .glo "is_own") rfl) (D.def_ 12 (d := dd12) rfl) rfl (fun _ _ _ _ _ _ us hl => match us, hl with | [_], _ => rfl)
  have v_d__law_is_own : Df K mg "_law_is_own" s__law_is_own ["_law_thing_here"] := cg X G (D.fact 54 (f := .glo "_law_is_own") rfl) (D.def_ 13 (d := dd13) rfl) rfl (fun _ _ _ _ _ _ us hl => match us, hl with | [_], _ => rfl)
  have v_d_is_span : Df K mg "is_span" s_is_span ["thing"] := cg X G (D.fact 55 (f := .glo "is_span") rfl) (D.def_ 14 (d := dd14) rfl) rfl (fun _ _ _ _ _ _ us hl => match us, hl with | [_], _ => rfl)
  have v_d_are_pairs : Df K mg "are_pairs" s_are_pairs ["thing"] := cg X G (D.fact 56 (f := .glo "are_pairs") rfl) (D.def_ 15 (d := dd15) rfl) rfl (fun _ _ _ _ _ _ us hl => match us, hl with | [_], _ => rfl)
  have v_d_has_leaf_form : Df K mg "has_leaf_form" s_has_leaf_form ["thing"] := cg X G (D.fact 57 (f := .glo "has_leaf_form") rfl) (D.def_ 16 (d := dd16) rfl) rfl (fun _ _ _ _ _ _ us hl => match us, hl with | [_], _ => rfl)
  have v_d_has_form : Df K mg "has_form" s_has_form ["thing"] := cg X G (D.fact 58 (f := .glo "has_form") rfl) (D.def_ 17 (d := dd17) rfl) rfl (fun _ _ _ _ _ _ us hl => match us, hl with | [_], _ => rfl)
  have vw_TURNS : KTab K w mg "TURNS" (turnS.map Str.ofString) (He.ga K "TURNS") := ⟨⟨_, He.glo_ok X G (D.fact 129 (f := .glo "TURNS") rfl), rfl⟩, tab_at c.t 0 rfl⟩
  have vw_TESTS : KTab K w mg "TESTS" (testS.map Str.ofString) (He.ga K "TESTS") := ⟨⟨_, He.glo_ok X G (D.fact 130 (f := .glo "TESTS") rfl), rfl⟩, tab_at c.t 1 rfl⟩
  have vw_LENGTHS : WTab K w mg "LENGTHS" lensK (He.ga K "LENGTHS") := ⟨⟨⟨_, He.glo_ok X G (D.fact 131 (f := .glo "LENGTHS") rfl), rfl⟩, tab_at c.t 2 rfl⟩, fun q hq => lens_ok (ex 45 rfl) hq⟩
  have v_d_own_parts : Df K mg "own_parts" s_own_parts ["generator"] := cg X G (D.fact 59 (f := .glo "own_parts") rfl) (D.def_ 18 (d := dd18) rfl) rfl (fun _ _ _ _ _ _ us hl => match us, hl with | [_], _ => rfl)
  have v_d_stands : Df K mg "stands" s_stands ["generator", "names", "grows"] := cg X G (D.fact 60 (f := .glo "stands") rfl) (D.def_ 19 (d := dd19) rfl) rfl (fun _ _ _ _ _ _ us hl => match us, hl with | [_, _, _], _ => rfl)
  have v_d_scoped_parts : Df K mg "scoped_parts" s_scoped_parts ["generator", "names", "grows"] := cg X G (D.fact 61 (f := .glo "scoped_parts") rfl) (D.def_ 20 (d := dd20) rfl) rfl (fun _ _ _ _ _ _ us hl => match us, hl with | [_, _, _], _ => rfl)
  have v_x___init__0 : Mf K (He.ga K "BadThing") "__init__" "BadThing.__init__" s_exi0 ["self", "place"] := cm (D.fact 62 (f := .meth "BadThing" "__init__") rfl) (D.def_ 21 (d := dd21) rfl) rfl (fun _ _ _ _ _ _ us hl => match us, hl with | [_, _], _ => rfl)
  have vB_BadThing : Bx K mg "BadThing" (excC K 0) := ⟨oexB_ok (ex 0 rfl), He.glo_ok X G (D.fact 120 (f := .glo "BadThing") rfl), He.noat_ok (D.fact 136 (f := .noat "BadThing" "place") rfl), vVB_ok (ex 42 rfl)⟩
  have v_x___init__1 : Mf K (He.ga K "BadGenerator") "__init__" "BadGenerator.__init__" s_exi1 ["self", "place"] := cm (D.fact 63 (f := .meth "BadGenerator" "__init__") rfl) (D.def_ 22 (d := dd22) rfl) rfl (fun _ _ _ _ _ _ us hl => match us, hl with | [_, _], _ => rfl)
  have vB_BadGenerator : Bx K mg "BadGenerator" (excC K 1) := ⟨oexB_ok (ex 21 rfl), He.glo_ok X G (D.fact 121 (f := .glo "BadGenerator") rfl), He.noat_ok (D.fact 137 (f := .noat "BadGenerator" "place") rfl), vVB_ok (ex 42 rfl)⟩
  have v_d_walked : Df K mg "walked" s_walked ["thing"] := cg X G (D.fact 64 (f := .glo "walked") rfl) (D.def_ 23 (d := dd23) rfl) rfl (fun _ _ _ _ _ _ us hl => match us, hl with | [_], _ => rfl)
  have v_d_need_thing : Df K mg "need_thing" s_need_thing ["thing"] := cg X G (D.fact 65 (f := .glo "need_thing") rfl) (D.def_ 24 (d := dd24) rfl) rfl (fun _ _ _ _ _ _ us hl => match us, hl with | [_], _ => rfl)
  have v_d_need_generator : Df K mg "need_generator" s_need_generator ["thing"] := cg X G (D.fact 66 (f := .glo "need_generator") rfl) (D.def_ 25 (d := dd25) rfl) rfl (fun _ _ _ _ _ _ us hl => match us, hl with | [_], _ => rfl)
  have v_d__law_own : Df K mg "_law_own" s__law_own ["_law_generator_here"] := cg X G (D.fact 67 (f := .glo "_law_own") rfl) (D.def_ 26 (d := dd26) rfl) rfl (fun _ _ _ _ _ _ us hl => match us, hl with | [_], _ => rfl)
  have v_d__law_has_form : Df K mg "_law_has_form" s__law_has_form ["_law_thing_here"] := cg X G (D.fact 68 (f := .glo "_law_has_form") rfl) (D.def_ 27 (d := dd27) rfl) rfl (fun _ _ _ _ _ _ us hl => match us, hl with | [_], _ => rfl)
  have v_d__law_place : Df K mg "_law_place" s__law_place ["_law_thing_here"] := cg X G (D.fact 69 (f := .glo "_law_place") rfl) (D.def_ 28 (d := dd28) rfl) rfl (fun _ _ _ _ _ _ us hl => match us, hl with | [_], _ => rfl)
  have v_d_spread : Df K mg "spread" s_spread ["words"] := cg X G (D.fact 70 (f := .glo "spread") rfl) (D.def_ 29 (d := dd29) rfl) rfl (fun _ _ _ _ _ _ us hl => match us, hl with | [_], _ => rfl)
  have v_d__law_spread : Df K mg "_law_spread" s__law_spread ["_law_words_here"] := cg X G (D.fact 71 (f := .glo "_law_spread") rfl) (D.def_ 30 (d := dd30) rfl) rfl (fun _ _ _ _ _ _ us hl => match us, hl with | [_], _ => rfl)
  have v_d_thing_words : Df K mg "thing_words" s_thing_words ["thing"] := cg X G (D.fact 72 (f := .glo "thing_words") rfl) (D.def_ 31 (d := dd31) rfl) rfl (fun _ _ _ _ _ _ us hl => match us, hl with | [_], _ => rfl)
  have v_d__law_thing_words : Df K mg "_law_thing_words" s__law_thing_words ["_law_thing_here"] := cg X G (D.fact 73 (f := .glo "_law_thing_words") rfl) (D.def_ 32 (d := dd32) rfl) rfl (fun _ _ _ _ _ _ us hl => match us, hl with | [_], _ => rfl)
  have v_d_thing_text : Df K mg "thing_text" s_thing_text ["thing"] := cg X G (D.fact 74 (f := .glo "thing_text") rfl) (D.def_ 33 (d := dd33) rfl) rfl (fun _ _ _ _ _ _ us hl => match us, hl with | [_], _ => rfl)
  have v_d_inner_words : Df K mg "inner_words" s_inner_words ["generator"] := cg X G (D.fact 75 (f := .glo "inner_words") rfl) (D.def_ 34 (d := dd34) rfl) rfl (fun _ _ _ _ _ _ us hl => match us, hl with | [_], _ => rfl)
  have v_d_generator_words : Df K mg "generator_words" s_generator_words ["generator"] := cg X G (D.fact 76 (f := .glo "generator_words") rfl) (D.def_ 35 (d := dd35) rfl) rfl (fun _ _ _ _ _ _ us hl => match us, hl with | [_], _ => rfl)
  have v_d_generator_text : Df K mg "generator_text" s_generator_text ["generator"] := cg X G (D.fact 77 (f := .glo "generator_text") rfl) (D.def_ 36 (d := dd36) rfl) rfl (fun _ _ _ _ _ _ us hl => match us, hl with | [_], _ => rfl)
  have v_d__law_words : Df K mg "_law_words" s__law_words ["_law_generator_here"] := cg X G (D.fact 78 (f := .glo "_law_words") rfl) (D.def_ 37 (d := dd37) rfl) rfl (fun _ _ _ _ _ _ us hl => match us, hl with | [_], _ => rfl)
  have v_d_run_from : Df K mg "run_from" s_run_from ["text", "at", "signs"] := cg X G (D.fact 79 (f := .glo "run_from") rfl) (D.def_ 38 (d := dd38) rfl) rfl (fun _ _ _ _ _ _ us hl => match us, hl with | [_, _, _], _ => rfl)
  have v_d_word_at : Df K mg "word_at" s_word_at ["text", "at", "signs"] := cg X G (D.fact 80 (f := .glo "word_at") rfl) (D.def_ 39 (d := dd39) rfl) rfl (fun _ _ _ _ _ _ us hl => match us, hl with | [_, _, _], _ => rfl)
  have v_d_words_of : DfD K mg "words_of" s_words_of ["text", "signs"] 1 [.str "()[]"] := by
    obtain ⟨fd, FD⟩ := D.def_ 40 (d := dd40) rfl
    exact ⟨⟨_, fd, FD, He.glo_ok X G (D.fact 81 (f := .glo "words_of") rfl)⟩, fun _ _ _ _ _ _ _ us its hl hi => (match us, hl, its, hi with | [_], _, [_], _ => ⟨_, rfl, rfl⟩), (by intro z; cases z), rfl⟩
  have v_d_need_words : Df K mg "need_words" s_need_words ["text"] := cg X G (D.fact 82 (f := .glo "need_words") rfl) (D.def_ 41 (d := dd41) rfl) rfl (fun _ _ _ _ _ _ us hl => match us, hl with | [_], _ => rfl)
  have v_d_number_in : Df K mg "number_in" s_number_in ["word", "figures"] := cg X G (D.fact 83 (f := .glo "number_in") rfl) (D.def_ 42 (d := dd42) rfl) rfl (fun _ _ _ _ _ _ us hl => match us, hl with | [_, _], _ => rfl)
  have v_d_thing_in : Df K mg "thing_in" s_thing_in ["words", "at", "figures", "opened"] := cg X G (D.fact 84 (f := .glo "thing_in") rfl) (D.def_ 43 (d := dd43) rfl) rfl (fun _ _ _ _ _ _ us hl => match us, hl with | [_, _, _, _], _ => rfl)
  have v_m_next_sort : Mf K (He.ga K "WordReader") "next_sort" "WordReader.next_sort" s_next_sort ["self"] := cm (D.fact 85 (f := .meth "WordReader" "next_sort") rfl) (D.def_ 44 (d := dd44) rfl) rfl (fun _ _ _ _ _ _ us hl => match us, hl with | [_], _ => rfl)
  have vR : Rdr K mg (He.ga K "WordReader") := ⟨He.cls_ok (D.fact 132 (f := .cls "WordReader") rfl), He.glo_ok X G (D.fact 128 (f := .glo "WordReader") rfl), He.noat_ok (D.fact 133 (f := .noat "WordReader" "words") rfl), He.noat_ok (D.fact 134 (f := .noat "WordReader" "at") rfl), He.noat_ok (D.fact 135 (f := .noat "WordReader" "opened") rfl), (He.mkr_ok (D.fact 138 (f := .mkr "WordReader") rfl)).makes, (He.mkr_ok (D.fact 138 (f := .mkr "WordReader") rfl)).kp⟩
  have v_m_next_text : Mf K (He.ga K "WordReader") "next_text" "WordReader.next_text" s_next_text ["self"] := cm (D.fact 86 (f := .meth "WordReader" "next_text") rfl) (D.def_ 45 (d := dd45) rfl) rfl (fun _ _ _ _ _ _ us hl => match us, hl with | [_], _ => rfl)
  have v_m_goes_past : Mf K (He.ga K "WordReader") "goes_past" "WordReader.goes_past" s_goes_past ["self", "is_right"] := cm (D.fact 87 (f := .meth "WordReader" "goes_past") rfl) (D.def_ 46 (d := dd46) rfl) rfl (fun _ _ _ _ _ _ us hl => match us, hl with | [_, _], _ => rfl)
  have v_m_a_number : Mf K (He.ga K "WordReader") "a_number" "WordReader.a_number" s_a_number ["self", "least", "most"] := cm (D.fact 88 (f := .meth "WordReader" "a_number") rfl) (D.def_ 47 (d := dd47) rfl) rfl (fun _ _ _ _ _ _ us hl => match us, hl with | [_, _, _], _ => rfl)
  have v_m_a_name : Mf K (He.ga K "WordReader") "a_name" "WordReader.a_name" s_a_name ["self"] := cm (D.fact 89 (f := .meth "WordReader" "a_name") rfl) (D.def_ 48 (d := dd48) rfl) rfl (fun _ _ _ _ _ _ us hl => match us, hl with | [_], _ => rfl)
  have v_m_one_word : Mf K (He.ga K "WordReader") "one_word" "WordReader.one_word" s_one_word ["self", "words"] := cm (D.fact 90 (f := .meth "WordReader" "one_word") rfl) (D.def_ 49 (d := dd49) rfl) rfl (fun _ _ _ _ _ _ us hl => match us, hl with | [_, _], _ => rfl)
  have v_m_a_thing : Mf K (He.ga K "WordReader") "a_thing" "WordReader.a_thing" s_a_thing ["self"] := cm (D.fact 91 (f := .meth "WordReader" "a_thing") rfl) (D.def_ 50 (d := dd50) rfl) rfl (fun _ _ _ _ _ _ us hl => match us, hl with | [_], _ => rfl)
  have v_m_inner : Mf K (He.ga K "WordReader") "inner" "WordReader.inner" s_inner ["self"] := cm (D.fact 92 (f := .meth "WordReader" "inner") rfl) (D.def_ 51 (d := dd51) rfl) rfl (fun _ _ _ _ _ _ us hl => match us, hl with | [_], _ => rfl)
  have v_m_things : Mf K (He.ga K "WordReader") "things" "WordReader.things" s_things ["self"] := cm (D.fact 93 (f := .meth "WordReader" "things") rfl) (D.def_ 52 (d := dd52) rfl) rfl (fun _ _ _ _ _ _ us hl => match us, hl with | [_], _ => rfl)
  have v_m_inners : Mf K (He.ga K "WordReader") "inners" "WordReader.inners" s_inners ["self"] := cm (D.fact 94 (f := .meth "WordReader" "inners") rfl) (D.def_ 53 (d := dd53) rfl) rfl (fun _ _ _ _ _ _ us hl => match us, hl with | [_], _ => rfl)
  have v_m_pairs : Mf K (He.ga K "WordReader") "pairs" "WordReader.pairs" s_pairs ["self"] := cm (D.fact 95 (f := .meth "WordReader" "pairs") rfl) (D.def_ 54 (d := dd54) rfl) rfl (fun _ _ _ _ _ _ us hl => match us, hl with | [_], _ => rfl)
  have v_m_rest_of : Mf K (He.ga K "WordReader") "rest_of" "WordReader.rest_of" s_rest_of ["self", "word"] := cm (D.fact 96 (f := .meth "WordReader" "rest_of") rfl) (D.def_ 55 (d := dd55) rfl) rfl (fun _ _ _ _ _ _ us hl => match us, hl with | [_, _], _ => rfl)
  have v_m_generator : Mf K (He.ga K "WordReader") "generator" "WordReader.generator" s_generator ["self"] := cm (D.fact 97 (f := .meth "WordReader" "generator") rfl) (D.def_ 56 (d := dd56) rfl) rfl (fun _ _ _ _ _ _ us hl => match us, hl with | [_], _ => rfl)
  have v_m___init__ : Mf K (He.ga K "WordReader") "__init__" "WordReader.__init__" s___init__ ["self", "words"] := cm (D.fact 98 (f := .meth "WordReader" "__init__") rfl) (D.def_ 57 (d := dd57) rfl) rfl (fun _ _ _ _ _ _ us hl => match us, hl with | [_, _], _ => rfl)
  have v_d_generator_at : Df K mg "generator_at" s_generator_at ["words", "at", "opened"] := cg X G (D.fact 99 (f := .glo "generator_at") rfl) (D.def_ 58 (d := dd58) rfl) rfl (fun _ _ _ _ _ _ us hl => match us, hl with | [_, _, _], _ => rfl)
  have v_d_read_generator : Df K mg "read_generator" s_read_generator ["text"] := cg X G (D.fact 100 (f := .glo "read_generator") rfl) (D.def_ 59 (d := dd59) rfl) rfl (fun _ _ _ _ _ _ us hl => match us, hl with | [_], _ => rfl)
  have v_d_read_thing : Df K mg "read_thing" s_read_thing ["text"] := cg X G (D.fact 101 (f := .glo "read_thing") rfl) (D.def_ 60 (d := dd60) rfl) rfl (fun _ _ _ _ _ _ us hl => match us, hl with | [_], _ => rfl)
  have v_d__law_mixed : Df K mg "_law_mixed" s__law_mixed ["_law_cell", "_law_k"] := cg X G (D.fact 102 (f := .glo "_law_mixed") rfl) (D.def_ 61 (d := dd61) rfl) rfl (fun _ _ _ _ _ _ us hl => match us, hl with | [_, _], _ => rfl)
  have v_d__law_draw : Df K mg "_law_draw" s__law_draw ["_law_state", "_law_many_here"] := cg X G (D.fact 103 (f := .glo "_law_draw") rfl) (D.def_ 62 (d := dd62) rfl) rfl (fun _ _ _ _ _ _ us hl => match us, hl with | [_, _], _ => rfl)
  have v_d__law_one : Df K mg "_law_one" s__law_one ["_law_state", "_law_things"] := cg X G (D.fact 104 (f := .glo "_law_one") rfl) (D.def_ 63 (d := dd63) rfl) rfl (fun _ _ _ _ _ _ us hl => match us, hl with | [_, _], _ => rfl)
  have v_d__law_word : Df K mg "_law_word" s__law_word ["_law_state"] := cg X G (D.fact 105 (f := .glo "_law_word") rfl) (D.def_ 64 (d := dd64) rfl) rfl (fun _ _ _ _ _ _ us hl => match us, hl with | [_], _ => rfl)
  have v_d__law_number : Df K mg "_law_number" s__law_number ["_law_state"] := cg X G (D.fact 106 (f := .glo "_law_number") rfl) (D.def_ 65 (d := dd65) rfl) rfl (fun _ _ _ _ _ _ us hl => match us, hl with | [_], _ => rfl)
  have v_d__law_thing : Df K mg "_law_thing" s__law_thing ["_law_state", "_law_deep"] := cg X G (D.fact 107 (f := .glo "_law_thing") rfl) (D.def_ 66 (d := dd66) rfl) rfl (fun _ _ _ _ _ _ us hl => match us, hl with | [_, _], _ => rfl)
  have v_d__law_many : Df K mg "_law_many" s__law_many ["_law_thing_here"] := cg X G (D.fact 108 (f := .glo "_law_many") rfl) (D.def_ 67 (d := dd67) rfl) rfl (fun _ _ _ _ _ _ us hl => match us, hl with | [_], _ => rfl)
  have v_d__law_small : Df K mg "_law_small" s__law_small ["_law_state", "_law_most"] := cg X G (D.fact 109 (f := .glo "_law_small") rfl) (D.def_ 68 (d := dd68) rfl) rfl (fun _ _ _ _ _ _ us hl => match us, hl with | [_, _], _ => rfl)
  have v_d__law_begun : Df K mg "_law_begun" s__law_begun ["_law_script"] := cg X G (D.fact 110 (f := .glo "_law_begun") rfl) (D.def_ 69 (d := dd69) rfl) rfl (fun _ _ _ _ _ _ us hl => match us, hl with | [_], _ => rfl)
  have v_d__law_rooms : Df K mg "_law_rooms" s__law_rooms ["_law_state", "_law_room", "_law_many_here"] := cg X G (D.fact 111 (f := .glo "_law_rooms") rfl) (D.def_ 70 (d := dd70) rfl) rfl (fun _ _ _ _ _ _ us hl => match us, hl with | [_, _, _], _ => rfl)
  have v_d__law_leaf : Df K mg "_law_leaf" s__law_leaf ["_law_state", "_law_names", "_law_grows"] := cg X G (D.fact 112 (f := .glo "_law_leaf") rfl) (D.def_ 71 (d := dd71) rfl) rfl (fun _ _ _ _ _ _ us hl => match us, hl with | [_, _, _], _ => rfl)
  have v_d__law_generator : Df K mg "_law_generator" s__law_generator ["_law_state", "_law_room", "_law_deep", "_law_names", "_law_grows"] := cg X G (D.fact 113 (f := .glo "_law_generator") rfl) (D.def_ 72 (d := dd72) rfl) rfl (fun _ _ _ _ _ _ us hl => match us, hl with | [_, _, _, _, _], _ => rfl)
  have v_d__law_bent : Df K mg "_law_bent" s__law_bent ["_law_state", "_law_thing_here"] := cg X G (D.fact 114 (f := .glo "_law_bent") rfl) (D.def_ 73 (d := dd73) rfl) rfl (fun _ _ _ _ _ _ us hl => match us, hl with | [_, _], _ => rfl)
  have v_d__law_loose : Df K mg "_law_loose" s__law_loose ["_law_state", "_law_words_here"] := cg X G (D.fact 115 (f := .glo "_law_loose") rfl) (D.def_ 74 (d := dd74) rfl) rfl (fun _ _ _ _ _ _ us hl => match us, hl with | [_, _], _ => rfl)
  have v_d__law_thing_right : DfT K mg "_law_thing_right" s__law_thing_right ["_law_state", "_law_thing_here"] (He.cT K ("_law_thing_right", none)).1 := cgT X G (D.fact 116 (f := .glo "_law_thing_right") rfl) (D.def_ 75 (d := dd75) rfl) rfl (fun _ _ _ _ _ _ us hl => match us, hl with | [_, _], _ => rfl)
  have v_d__law_refused : Df K mg "_law_refused" s__law_refused ["_law_deed"] := cg X G (D.fact 117 (f := .glo "_law_refused") rfl) (D.def_ 76 (d := dd76) rfl) rfl (fun _ _ _ _ _ _ us hl => match us, hl with | [_], _ => rfl)
  have vZ : Rz K mg (excC K) := ⟨He.glo_ok X G (D.fact 120 (f := .glo "BadThing") rfl),
    He.glo_ok X G (D.fact 121 (f := .glo "BadGenerator") rfl),
    He.glo_ok X G (D.fact 122 (f := .glo "BadText") rfl),
    He.glo_ok X G (D.fact 123 (f := .glo "BadTape") rfl),
    He.glo_ok X G (D.fact 124 (f := .glo "BadTable") rfl),
    He.glo_ok X G (D.fact 125 (f := .glo "BadQuestion") rfl),
    He.glo_ok X G (D.fact 126 (f := .glo "TooMany") rfl),
    He.glo_ok X G (D.fact 127 (f := .glo "NeverComes") rfl),
    xscB_ok (ex 1 rfl),
    He.noat_ok (D.fact 136 (f := .noat "BadThing" "place") rfl),
    of_decide_eq_true (ex 3 rfl),
    of_decide_eq_true (ex 2 rfl),
    of_decide_eq_true (ex 5 rfl),
    of_decide_eq_true (ex 4 rfl),
    of_decide_eq_true (ex 7 rfl),
    of_decide_eq_true (ex 6 rfl),
    of_decide_eq_true (ex 9 rfl),
    of_decide_eq_true (ex 8 rfl),
    of_decide_eq_true (ex 11 rfl),
    of_decide_eq_true (ex 10 rfl),
    of_decide_eq_true (ex 13 rfl),
    of_decide_eq_true (ex 12 rfl),
    of_decide_eq_true (ex 15 rfl),
    of_decide_eq_true (ex 14 rfl),
    of_decide_eq_true (ex 17 rfl),
    of_decide_eq_true (ex 16 rfl),
    of_decide_eq_true (ex 18 rfl),
    of_decide_eq_true (ex 19 rfl),
    of_decide_eq_true (ex 20 rfl),
    xscB_ok (ex 22 rfl),
    He.noat_ok (D.fact 137 (f := .noat "BadGenerator" "place") rfl),
    of_decide_eq_true (ex 24 rfl),
    of_decide_eq_true (ex 23 rfl),
    of_decide_eq_true (ex 26 rfl),
    of_decide_eq_true (ex 25 rfl),
    of_decide_eq_true (ex 28 rfl),
    of_decide_eq_true (ex 27 rfl),
    of_decide_eq_true (ex 30 rfl),
    of_decide_eq_true (ex 29 rfl),
    of_decide_eq_true (ex 32 rfl),
    of_decide_eq_true (ex 31 rfl),
    of_decide_eq_true (ex 34 rfl),
    of_decide_eq_true (ex 33 rfl),
    of_decide_eq_true (ex 36 rfl),
    of_decide_eq_true (ex 35 rfl),
    of_decide_eq_true (ex 38 rfl),
    of_decide_eq_true (ex 37 rfl),
    of_decide_eq_true (ex 39 rfl),
    of_decide_eq_true (ex 40 rfl),
    of_decide_eq_true (ex 41 rfl)⟩
  have v_d__law_generator_right : DfT K mg "_law_generator_right" s__law_generator_right ["_law_state", "_law_generator_here"] (He.cT K ("_law_generator_right", none)).1 := cgT X G (D.fact 118 (f := .glo "_law_generator_right") rfl) (D.def_ 77 (d := dd77) rfl) rfl (fun _ _ _ _ _ _ us hl => match us, hl with | [_, _], _ => rfl)
  have v_d_law : Df K mg "law" s_law ["_law_script"] := cg X G (D.fact 119 (f := .glo "law") rfl) (D.def_ 78 (d := dd78) rfl) rfl (fun _ _ _ _ _ _ us hl => match us, hl with | [_], _ => rfl)
  exact ⟨vT, v_d_is_number, v_d_is_name, v_d_is_form, v_d_first_bad, v_d__law_is_number, v_d__law_is_name, v_d_is_among, v_d__law_among, v_d_are_many, v_d__law_are_many, v_d_is_bound, v_d__law_bad_thing, v_d_is_own, v_d__law_is_own, v_d_is_span, v_d_are_pairs, v_d_has_leaf_form, v_d_has_form, vw_TURNS, vw_TESTS, vw_LENGTHS, v_d_own_parts, v_d_stands, v_d_scoped_parts, v_x___init__0, vB_BadThing, v_x___init__1, vB_BadGenerator, v_d_walked, v_d_need_thing, v_d_need_generator, v_d__law_own, v_d__law_has_form, v_d__law_place, v_d_spread, v_d__law_spread, v_d_thing_words, v_d__law_thing_words, v_d_thing_text, v_d_inner_words, v_d_generator_words, v_d_generator_text, v_d__law_words, v_d_run_from, v_d_word_at, v_d_words_of, v_d_need_words, v_d_number_in, v_d_thing_in, v_m_next_sort, vR, v_m_next_text, v_m_goes_past, v_m_a_number, v_m_a_name, v_m_one_word, v_m_a_thing, v_m_inner, v_m_things, v_m_inners, v_m_pairs, v_m_rest_of, v_m_generator, v_m___init__, v_d_generator_at, v_d_read_generator, v_d_read_thing, v_d__law_mixed, v_d__law_draw, v_d__law_one, v_d__law_word, v_d__law_number, v_d__law_thing, v_d__law_many, v_d__law_small, v_d__law_begun, v_d__law_rooms, v_d__law_leaf, v_d__law_generator, v_d__law_bent, v_d__law_loose, v_d__law_thing_right, v_d__law_refused, vZ, v_d__law_generator_right, v_d_law⟩
end
end K6
set_option maxHeartbeats 0
namespace K6
open L2 PySem PySem.Spec PyProof.Rows
theorem law_at {P : Program} {l : PySem.W.OpenLaw} {w : World} {K : PySem.W.Frag} {mg : Str → Option Value} {h : Heap} (hP : l.prog = P) (X : K.In h) (G : h.Ns mainGlobals mg) (c : He.SaysX fa fn tsL tfL exA w h K) : LawG l w K 31 63 "law" mg h := by
  have fx := fx_of X G c
  have hne : (He.cT K dR0).2 ≠ (He.cT K dR1).2 := by
    have h1 : (!decide ((He.cT K dR0).2 = (He.cT K dR1).2)) = true := ex_at c.more 44 (f := fun K => !decide ((He.cT K dR0).2 = (He.cT K dR1).2)) rfl
    intro z
    rw [decide_eq_true z] at h1
    cases h1
  have m0 : dR0 ∈ tfL := .head _
  have m1 : dR1 ∈ tfL := .tail _ (.head _)
  have two : ∀ {Q : Addr × Addr → Prop}, Q (He.cT K dR0) → Q (He.cT K dR1) → ∀ p ∈ [He.cT K dR0, He.cT K dR1], Q p := fun {Q} a b p hp => by
    simp only [List.mem_cons, List.not_mem_nil, or_false] at hp
    rcases hp with rfl | rfl
    · exact a
    · exact b
  refine ⟨[He.cT K dR0, He.cT K dR1], sp_law (lamT (He.cT K dR0).2 (He.cT K dR1).2), noLst_ok (ex_at c.more 43 (f := noLst) rfl), two (c.empty _ m0) (c.empty _ m1), two (c.out _ m0) (c.out _ m1), two (PySem.W.codeHd_of_K X (c.hd _ m0)) (PySem.W.codeHd_of_K X (c.hd _ m1)), fun H u a ns hl ht hH => ?_, fun base hb hg TB => ?_⟩
  · refine ⟨a, u, ns, rfl, hH, by omega, fun p hp => ?_, fun _ => rfl⟩
    simp only [lamT, List.mem_cons, List.not_mem_nil, or_false] at hp
    rcases hp with rfl | rfl
    · exact LamX.TabS.nil (ht _ (.head _))
    · exact LamX.TabS.nil (ht _ (.tail _ (.head _)))
  · exact law_of fx (TB _ (.head _)) (TB _ (.tail _ (.head _))) hne
end K6
open PyProof.Rows PySem PySem.W PySem.Calls
theorem PySem.Challenge.cw_drawlab_k06_whole_texts_there_and_back_holds : PySem.Challenge.rw_drawlab_k06_whole_texts_there_and_back.Holds := by
  w_on; o_law
  refine HandSHeadRun.head_any (r := K6H.R) (q := K6H.qv) (H := K6H.hk) (ob := K6H.ob) (M := 20000) (loose := K6H.names) (d := HandSHeadRun.topDef K6H.R.prog 121) (kwd := []) K6H.ob_eq
    (by kernel_rfl) (fun s => by kernel_rfl) K6H.run (by kernel_rfl) (by kernel_rfl) (by kernel_rfl) (by rfl) (by first | assumption | decide +kernel) (by decide +kernel) ⟨rfl, rfl, rfl, rfl, rfl, by decide +kernel⟩ ?hw ?hc
  case hw => w_witness2
  case hc =>
    have hn : (HandSHeadRun.topDef K6H.R.prog 121).name = ("law" : PySem.Str) := by kernel_rfl
    refine K6.walk_ofG (l := PySem.Challenge.rw_drawlab_k06_whole_texts_there_and_back) (n := 63) (k := 31) rfl (by decide) (by kernel_rfl) ⟨rfl, by decide, by decide⟩ fun w mg fa h Y G hmg => ?_
    obtain ⟨K, KX, c⟩ := Y
    rw [hn]
    exact ⟨K, KX, K6.law_at rfl KX G c⟩
