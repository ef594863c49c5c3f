import PyProof.Rows.All
import Wide.All
import OpenK.AllK
import Wide.FinOn
import HandS.ForMost
import HandS.TupAny
import HandS.Wide
import HandS.IsInst
import HandS.Style
import HandS.Flow
import HandS.Defaults
import HandS.CallRecv
import HandS.Small
import HandS.Sort
import HandS.DictTup
import KE.KDictKeyed
import KE.KDictWalk
import HandS.Walk
import KE.KMinKey
import HandS.SortKw
import KE.GoesMore
import HandS.SortRule
import KE.KDictPairs
import HandS.TupLen
import KE.KDictDisplayH
import PySem.Challenge.RW_tosslanes_k93_whole_lookers
set_option Elab.async false
set_option linter.all false
section
set_option Elab.async false
set_option linter.all false
set_option maxRecDepth 100000
set_option maxHeartbeats 2000000
set_option autoImplicit false
set_option exponentiation.threshold 10000
/-! Tuples that are known to bear no dict of their own. -/
namespace Tl
open PySem PySem.Spec PyProof.Rows L2
/-- a tuple that is read, its object plain -/
def PT (K : PySem.W.Frag) (H : Hp) (a : Addr) (xs : List V) : Prop :=
  (∃ o, H a = some (.frz o (.tup xs)) ∧ o.dict = none) ∨
    ∃ (o : Obj) (its : Array Value) (n : Nat), K.lookup a = some o ∧ o.cls = .type "tuple" ∧ o.dict = none ∧ o.data = .seq its n ∧ its.size ≤ sizeLine ∧ Vals xs its.toList
theorem PT.sq {K : PySem.W.Frag} {H : Hp} {a : Addr} {xs : List V} (h : PT K H a xs) : SqT K H a xs := by
  rcases h with ⟨o, h, _⟩ | ⟨o, its, n, h1, h2, h3, h4, h5, h6⟩
  · exact .inl (.inr ⟨o, h⟩)
  · exact .inr ⟨o, its, n, h1, h2, h4, h5, h6⟩
theorem PT.new {K : PySem.W.Frag} {H : Hp} {a : Addr} {xs : List V} {o : Obj} (h : o.dict = none) : PT K (upd H a (.frz o (.tup xs))) a xs := .inl ⟨o, upd_same, h⟩
section
variable {X : Cx} {es : List Expr} {t : TA} {pos : Pos}
def plainTup (its : List Value) : Obj := { cls := .type "tuple", data := .seq its.toArray }
theorem Inv.newTup {pins : List (Addr × Obj)} {σ : L2.St} {H : Hp} {s : Shared} {xs : List V} {its : List Value} {tk : Nat} (I : Inv X pins σ H s) (r : Vals xs its) (z : xs.length ≤ sizeLine) :
    Inv X pins σ (upd H s.heap.objs.size (.frz (plainTup its) (.tup xs))) { s with heap := s.heap.push (plainTup its), toks := tk } := by
  have e : (s.heap.push (plainTup its)).get? s.heap.objs.size = some (plainTup its) := Heap.get?_push_size _ rfl
  exact I.laid (fun b u q => Heap.get?_push_of_some _ q) (Nat.le_refl _) ⟨e, z, its, r, ⟨_, e, rfl, _, rfl⟩⟩
def tTupF (t : TA) : TE := fun σ H Q => t σ H fun xs H1 => xs.length ≤ sizeLine ∧ ∀ p o, H1 p = none → o.dict = none → Q (.ref p) (upd H1 p (.frz o (.tup xs)))
theorem pe_tupF {x1} (h : PA X es t) : PE X (.Tuple es x1 pos) (tTupF t) := by
  refine ⟨fun pins s σ H Q I hq => wpAny_Tuple_spliced (thn (h.run pos pins s σ H _ I hq) fun us s1 hh => ?_)⟩
  obtain ⟨xs, H1, I1, r, z, q⟩ := hh
  refine ⟨by rw [← r.length]; exact z, ?_⟩
  exact ⟨.ref s1.heap.objs.size, _, Inv.newTup (tk := s1.toks) I1 r z, rfl, q _ _ (I1.hok.fresh (Nat.le_refl _)) rfl⟩
/-- tuple(a list) makes a plain one; tuple(a plain tuple) is itself -/
def rTupF (K : PySem.W.Frag) : List V → Hp → VK → Prop := fun vs H Q => ∃ p ys, vs = [.ref p] ∧ ((SqL K H p ys ∧ ∀ l o, H l = none → o.dict = none → Q (.ref l) (upd H l (.frz o (.tup ys)))) ∨ (SqT K H p ys ∧ Q (.ref p) H))
theorem call_tupF {K : PySem.W.Frag} (hK : X.K = K) : CallR X (.type "tuple") (rTupF K) := by
  subst hK
  intro pins s σ H vs us Q I r h
  obtain ⟨p, ys, rfl, h⟩ := h
  obtain ⟨u, rfl, rx⟩ := vals1 r
  cases rx
  rcases h with ⟨hq, q⟩ | ⟨hq, q⟩
  · obtain ⟨its, r2, pl, z⟩ := I.list hq
    refine call_tuple_list pl.isList (fun h2 kp => ?_) (by have := r2.length; simp only [List.size_toArray]; omega)
    have I2 : Inv X pins σ H { s with heap := h2 } := I.kept (t' := s.toks) kp
    exact ⟨.ref h2.objs.size, _, Inv.newTup (tk := s.toks) I2 r2 z, rfl, q _ _ (I2.hok.fresh (Nat.le_refl _)) rfl⟩
  · obtain ⟨its, r2, pl, z⟩ := I.tuple hq
    exact call_tuple_same pl ⟨.ref p, H, I, rfl, q⟩
def rCatF (K : PySem.W.Frag) : R2 := fun x y H Q => ∃ a b xs ys, x = .ref a ∧ y = .ref b ∧ SqT K H a xs ∧ SqT K H b ys ∧ xs.length + ys.length ≤ sizeLine ∧
  (xs = [] → Q (.ref b) H) ∧ (xs ≠ [] → ys = [] → Q (.ref a) H) ∧ (xs ≠ [] → ys ≠ [] → ∀ p o, H p = none → o.dict = none → Q (.ref p) (upd H p (.frz o (.tup (xs ++ ys)))))
theorem op_catF : OpR X (binaryOp .Add) (rCatF X.K) := by
  intro pins s σ H x y v u Q I rx ry h
  obtain ⟨a, b, xs, ys, rfl, rfl, ha, hb, hz, q0, q1, q2⟩ := h
  cases rx
  cases ry
  obtain ⟨i1, r1, p1, _⟩ := I.tuple ha
  obtain ⟨i2, r2, p2, _⟩ := I.tuple hb
  by_cases hx : xs = []
  · subst hx
    cases r1
    exact cat_tup0 p1 p2 ⟨.ref b, H, I, rfl, q0 rfl⟩
  · refine HT.cat_tup p1 p2 (fun z => hx (r1.nil_iff.mp z)) (fun z => ⟨.ref a, H, I, rfl, q1 hx (r2.nil_iff.mp z)⟩) (fun z => ?_) (by rw [← r1.length, ← r2.length]; exact hz)
    exact ⟨.ref s.heap.objs.size, _, Inv.newTup (tk := s.toks) I (r1.append r2) (by rw [List.length_append]; exact hz), rfl, q2 hx (fun w => z (r2.nil_iff.mpr w)) _ _ (I.hok.fresh (Nat.le_refl _)) rfl⟩
end
end Tl
end
section
set_option Elab.async false
set_option linter.all false
set_option maxRecDepth 100000
set_option maxHeartbeats 2000000
set_option autoImplicit false
/-! Data over the abstract heap: what a value stands for (R), what the slots stand for (Rep), and what expressions, tests, arguments, statements come to over data (EG, TGd, AG, SG). -/
namespace Tl
open PySem PySem.Spec PyProof.Rows L2

structure Bs where
  P : Program
  w : World
  K : PySem.W.Frag
  pp : Addr → Prop
/-- the same, of other objects -/
abbrev Bs.at (B : Bs) (pp : Addr → Prop) : Bs := ⟨B.P, B.w, B.K, pp⟩
/-- one more object is being changed -/
abbrev Bs.op (B : Bs) (p : Addr) : Bs := ⟨B.P, B.w, B.K, fun a => B.pp a ∨ a = p⟩

inductive D where
  | non
  | bl (b : Bool)
  | int (i : Int)
  | str (x : Str)
  | tup (ds : List D)
  | lst (ds : List D)
  | dk (ks : List Int)
  | dn (kvs : List (D × D))
  | raw (v : V)

mutual
def nk : D → NestedKey
  | .int i => .num i
  | .str x => .text x
  | .tup ds => .tup (nks ds)
  | .non => .none
  | .bl b => .num (if b = true then 1 else 0)
  | .lst _ => .none
  | .dk _ => .none
  | .dn _ => .none
  | .raw _ => .none
def nks : List D → List NestedKey
  | [] => []
  | d :: ds => nk d :: nks ds
end
mutual
/-- data that may be a key: none, ints, texts, tuples of such -/
def kb : D → Bool
  | .int _ => true
  | .str _ => true
  | .non => true
  | .tup ds => kbs ds
  | .bl _ => false
  | .lst _ => false
  | .dk _ => false
  | .dn _ => false
  | .raw _ => false
def kbs : List D → Bool
  | [] => true
  | d :: ds => kb d && kbs ds
end

def EntRel (p : NestedKey × Addr × V) (q : NestedKey × Addr × Value) : Prop := p.1 = q.1 ∧ p.2.1 = q.2.1 ∧ RelV p.2.2 q.2.2
def ndP (P : Program) (w : World) (d : Addr) (o : Obj) (es : List (NestedKey × Addr × V)) (h : Heap) : Prop :=
  h.get? d = some o ∧ es.length ≤ sizeLine ∧ (d == sysModules) = false ∧ o.ExactDict ∧ ∃ xs : List (NestedKey × Addr × Value), Paired EntRel es xs ∧
    ∃ tab ep, o.data = .dict tab ep ∧ tab.toList = xs.map (entryOfKey (nestedKind P w)) ∧ (xs.map (·.1)).Nodup
/-- a dict whose keys are nested tuples, as the object o: its entries, keys with their own tuples -/
def nd (P : Program) (w : World) (d : Addr) (o : Obj) (es : List (NestedKey × Addr × V)) : HO := .ext (ndP P w d o es)

mutual
inductive R (B : Bs) (H : Hp) : V → D → Prop
  | non : R B H .non .non
  | bl (b : Bool) : R B H (.bl b) (.bl b)
  | int (i : Int) : R B H (.int i) (.int i)
  | str (x : Str) : R B H (.str x) (.str x)
  | tup {a : Addr} {xs : List V} {ds : List D} : PT B.K H a xs → RA B H xs ds → R B H (.ref a) (.tup ds)
  | lst {a : Addr} {xs : List V} {ds : List D} : H a = some (.lst xs) → ¬ B.pp a → RA B H xs ds → R B H (.ref a) (.lst ds)
  | dk {a : Addr} {kvs : List (Key × V)} {ks : List Int} : Rd H a (.dK kvs) → ¬ B.pp a → kvs.map (·.1) = ks.map Sum.inl → R B H (.ref a) (.dk ks)
  | dn {a : Addr} {o : Obj} {es : List (NestedKey × Addr × V)} {kvs : List (D × D)} : Rd H a (nd B.P B.w a o es) → ¬ B.pp a → RE B H es kvs → R B H (.ref a) (.dn kvs)
  | raw (v : V) : R B H v (.raw v)
inductive RA (B : Bs) (H : Hp) : List V → List D → Prop
  | nil : RA B H [] []
  | cons {v : V} {vs : List V} {d : D} {ds : List D} : R B H v d → RA B H vs ds → RA B H (v :: vs) (d :: ds)
inductive RE (B : Bs) (H : Hp) : List (NestedKey × Addr × V) → List (D × D) → Prop
  | nil : RE B H [] []
  | cons {a : Addr} {v : V} {kd vd : D} {es : List (NestedKey × Addr × V)} {kvs : List (D × D)} : kb kd = true → (nk kd).depth ≤ 8 → R B H (.ref a) kd → R B H v vd → RE B H es kvs → RE B H ((nk kd, a, v) :: es) ((kd, vd) :: kvs)
end

/-- what is read stays readable -/
structure Kp (H H' : Hp) : Prop where
  rd : ∀ a u, Rd H a u → Rd H' a u
  ls : ∀ a xs, H a = some (.lst xs) → H' a = some (.lst xs)
  tp : ∀ a o xs, H a = some (.frz o (.tup xs)) → H' a = some (.frz o (.tup xs))
theorem Kp.refl (H : Hp) : Kp H H := ⟨fun _ _ h => h, fun _ _ h => h, fun _ _ _ h => h⟩
theorem Kp.trans {H H1 H2 : Hp} (a : Kp H H1) (b : Kp H1 H2) : Kp H H2 := ⟨fun x u h => b.rd x u (a.rd x u h), fun x u h => b.ls x u (a.ls x u h), fun x o u h => b.tp x o u (a.tp x o u h)⟩
theorem Kp.of {H H' : Hp} (e : Same H H') : Kp H H' := ⟨fun a u h => by
  rcases h with h | ⟨o, h⟩
  · exact .inl (e a _ h)
  · exact .inr ⟨o, e a _ h⟩, fun a xs h => e a _ h, fun a o xs h => e a _ h⟩
theorem Kp.sqT {K : PySem.W.Frag} {H H' : Hp} (k : Kp H H') {a : Addr} {xs : List V} (h : SqT K H a xs) : SqT K H' a xs := by
  rcases h with h | h
  · exact .inl (k.rd _ _ h)
  · exact .inr h
theorem Kp.pt {K : PySem.W.Frag} {H H' : Hp} (k : Kp H H') {a : Addr} {xs : List V} (h : PT K H a xs) : PT K H' a xs := by
  rcases h with ⟨o, h, h2⟩ | h
  · exact .inl ⟨o, k.tp _ _ _ h, h2⟩
  · exact .inr h
mutual
theorem R.mono {B : Bs} {H H' : Hp} (k : Kp H H') : ∀ {v : V} {d : D}, R B H v d → R B H' v d
  | _, _, .non => .non
  | _, _, .bl b => .bl b
  | _, _, .int i => .int i
  | _, _, .str x => .str x
  | _, _, .tup h r => .tup (k.pt h) (RA.mono k r)
  | _, _, .lst h n r => .lst (k.ls _ _ h) n (RA.mono k r)
  | _, _, .dk h n r => .dk (k.rd _ _ h) n r
  | _, _, .dn h n r => .dn (k.rd _ _ h) n (RE.mono k r)
  | _, _, .raw v => .raw v
theorem RA.mono {B : Bs} {H H' : Hp} (k : Kp H H') : ∀ {vs : List V} {ds : List D}, RA B H vs ds → RA B H' vs ds
  | _, _, .nil => .nil
  | _, _, .cons r t => .cons (R.mono k r) (RA.mono k t)
theorem RE.mono {B : Bs} {H H' : Hp} (k : Kp H H') : ∀ {es : List (NestedKey × Addr × V)} {kvs : List (D × D)}, RE B H es kvs → RE B H' es kvs
  | _, _, .nil => .nil
  | _, _, .cons h1 h2 r1 r2 t => .cons h1 h2 (R.mono k r1) (R.mono k r2) (RE.mono k t)
end
theorem R.ext {B : Bs} {H H' : Hp} {v : V} {d : D} (r : R B H v d) (e : Same H H') : R B H' v d := r.mono (.of e)
theorem RA.ext {B : Bs} {H H' : Hp} {v : List V} {d : List D} (r : RA B H v d) (e : Same H H') : RA B H' v d := r.mono (.of e)
section
variable {B : Bs} {H : Hp}
theorem RA.length : ∀ {xs : List V} {ds : List D}, RA B H xs ds → xs.length = ds.length
  | _, _, .nil => rfl
  | _, _, .cons _ t => congrArg (· + 1) t.length
theorem RA.get : ∀ {xs : List V} {ds : List D} {i : Nat} {d : D}, RA B H xs ds → ds[i]? = some d → ∃ v, xs[i]? = some v ∧ R B H v d
  | _, _, _, _, .nil, e => by simp at e
  | _, _, 0, _, .cons r _, e => by simp at e; subst e; exact ⟨_, rfl, r⟩
  | _, _, i + 1, d, .cons _ t, e => by
    obtain ⟨u, h1, h2⟩ := RA.get (i := i) (d := d) t (by simpa using e)
    exact ⟨u, by simpa using h1, h2⟩
theorem RA.getV : ∀ {xs : List V} {ds : List D} {i : Nat} {v : V}, RA B H xs ds → xs[i]? = some v → ∃ d, ds[i]? = some d ∧ R B H v d
  | _, _, _, _, .nil, e => by simp at e
  | _, _, 0, _, .cons r _, e => by simp at e; subst e; exact ⟨_, rfl, r⟩
  | _, _, i + 1, d, .cons _ t, e => by
    obtain ⟨u, h1, h2⟩ := RA.getV (i := i) (v := d) t (by simpa using e)
    exact ⟨u, by simpa using h1, h2⟩
theorem RA.append : ∀ {xs ys : List V} {ds es : List D}, RA B H xs ds → RA B H ys es → RA B H (xs ++ ys) (ds ++ es)
  | _, _, _, _, .nil, s => s
  | _, _, _, _, .cons r t, s => .cons r (t.append s)
theorem RA.take : ∀ {xs : List V} {ds : List D} (n : Nat), RA B H xs ds → RA B H (xs.take n) (ds.take n)
  | _, _, 0, _ => .nil
  | _, _, _ + 1, .nil => .nil
  | _, _, n + 1, .cons r t => .cons r (RA.take n t)
theorem RA.drop : ∀ {xs : List V} {ds : List D} (n : Nat), RA B H xs ds → RA B H (xs.drop n) (ds.drop n)
  | _, _, 0, r => r
  | _, _, _ + 1, .nil => .nil
  | _, _, n + 1, .cons _ t => RA.drop n t
theorem RA.snoc {xs : List V} {ds : List D} {v : V} {d : D} (r : RA B H xs ds) (q : R B H v d) : RA B H (xs ++ [v]) (ds ++ [d]) := r.append (.cons q .nil)
theorem R.int_inv {v : V} {i : Int} (r : R B H v (.int i)) : v = .int i := by cases r; rfl
theorem R.bl_inv {v : V} {i : Bool} (r : R B H v (.bl i)) : v = .bl i := by cases r; rfl
theorem R.str_inv {v : V} {i : Str} (r : R B H v (.str i)) : v = .str i := by cases r; rfl
theorem R.non_inv {v : V} (r : R B H v .non) : v = .non := by cases r; rfl
theorem R.raw_inv {v u : V} (r : R B H v (.raw u)) : v = u := by cases r; rfl
theorem R.tup_inv {v : V} {ds : List D} (r : R B H v (.tup ds)) : ∃ a xs, v = .ref a ∧ PT B.K H a xs ∧ RA B H xs ds := by
  cases r with
  | tup h q => exact ⟨_, _, rfl, h, q⟩
theorem R.lst_inv {v : V} {ds : List D} (r : R B H v (.lst ds)) : ∃ a xs, v = .ref a ∧ H a = some (.lst xs) ∧ RA B H xs ds := by
  cases r with
  | lst h n q => exact ⟨_, _, rfl, h, q⟩
theorem R.lst_off {a : Addr} {ds : List D} (r : R B H (.ref a) (.lst ds)) : ¬ B.pp a := by
  cases r with
  | lst h n q => exact n
theorem R.dk_inv {v : V} {ks : List Int} (r : R B H v (.dk ks)) : ∃ a kvs, v = .ref a ∧ Rd H a (.dK kvs) ∧ kvs.map (·.1) = ks.map Sum.inl := by
  cases r with
  | dk h n q => exact ⟨_, _, rfl, h, q⟩
theorem R.dn_inv {v : V} {kvs : List (D × D)} (r : R B H v (.dn kvs)) : ∃ a o es, v = .ref a ∧ Rd H a (nd B.P B.w a o es) ∧ ¬ B.pp a ∧ RE B H es kvs := by
  cases r with
  | dn h n q => exact ⟨_, _, _, rfl, h, n, q⟩
end
/-! data as the library's data -/
mutual
def py : D → PyData
  | .non => .none
  | .bl b => .bool b
  | .int i => .int i
  | .str x => .str x
  | .tup ds => .tuple (pys ds)
  | .lst ds => .list (pys ds)
  | .dk _ => .none
  | .dn _ => .none
  | .raw _ => .none
def pys : List D → List PyData
  | [] => []
  | d :: ds => py d :: pys ds
end
mutual
def pl : D → Bool
  | .non => true
  | .bl _ => true
  | .int _ => true
  | .str _ => true
  | .tup ds => pls ds
  | .lst ds => pls ds
  | .dk _ => false
  | .dn _ => false
  | .raw _ => false
def pls : List D → Bool
  | [] => true
  | d :: ds => pl d && pls ds
end
section
variable {B : Bs} {H : Hp}
mutual
theorem R.dp : ∀ {v : V} {d : D}, R B H v d → pl d = true → Dp B.K H v (py d)
  | _, _, .non, _ => .non
  | _, _, .bl b, _ => .bl b
  | _, _, .int i, _ => .int i
  | _, _, .str x, _ => .str x
  | _, _, .tup h r, p => by
    rw [py]
    exact .tup h.sq (RA.dp r (by rw [pl] at p; exact p))
  | _, _, .lst h n r, p => by
    rw [py]
    exact .lst (.inl (.inl h)) (RA.dp r (by rw [pl] at p; exact p))
  | _, _, .dk _ _ _, p => by rw [pl] at p; cases p
  | _, _, .dn _ _ _, p => by rw [pl] at p; cases p
  | _, _, .raw _, p => by rw [pl] at p; cases p
theorem RA.dp : ∀ {vs : List V} {ds : List D}, RA B H vs ds → pls ds = true → DpAll B.K H vs (pys ds)
  | _, _, .nil, _ => by rw [pys]; exact .nil
  | _, _, .cons r t, p => by
    rw [pls, Bool.and_eq_true] at p
    rw [pys]
    exact .cons (R.dp r p.1) (RA.dp t p.2)
end
end

/-! ### data contexts -/
abbrev Gm := List (Option D)
/-- what is being changed is there -/
def Pp (B : Bs) (H : Hp) : Prop := ∀ a, B.pp a → H a ≠ none
theorem Pp.ext {B : Bs} {H H' : Hp} (h : Pp B H) (e : Same H H') : Pp B H' := fun a p z => by
  cases q : H a with
  | none => exact h a p q
  | some u => rw [e a u q] at z; cases z
theorem Pp.new {B : Bs} {H : Hp} {p : Addr} (h : Pp B H) (e : H p = none) : ¬ B.pp p := fun z => h p z e
structure Rep (B : Bs) (H : Hp) (σ : L2.St) (Γ : Gm) : Prop where
  pp : Pp B H
  len : σ.length = Γ.length
  at_ : ∀ (i : Nat) (d : D), Γ[i]? = some (some d) → ∃ v, σ[i]? = some (some v) ∧ R B H v d
section
variable {B : Bs} {H H' : Hp} {σ : L2.St} {Γ : Gm}
theorem Rep.ext (r : Rep B H σ Γ) (e : Same H H') : Rep B H' σ Γ := ⟨r.pp.ext e, r.len, fun i d z => let ⟨v, h, q⟩ := r.at_ i d z; ⟨v, h, q.ext e⟩⟩
theorem Rep.set (r : Rep B H σ Γ) (i : Nat) {v : V} {d : D} (q : R B H v d) : Rep B H (σ.set i (some v)) (Γ.set i (some d)) := by
  refine ⟨r.pp, by rw [List.length_set, List.length_set]; exact r.len, fun j e h => ?_⟩
  by_cases hj : i = j
  · subst hj
    by_cases hl : i < Γ.length
    · rw [List.getElem?_set_self hl] at h
      cases h
      exact ⟨v, List.getElem?_set_self (by rw [r.len]; exact hl), q⟩
    · rw [List.getElem?_eq_none (by simpa using hl)] at h
      cases h
  · rw [List.getElem?_set_ne hj] at h ⊢
    exact r.at_ j e h
theorem Rep.drop (r : Rep B H σ Γ) (i : Nat) (x : Option V) : Rep B H (σ.set i x) (Γ.set i none) := by
  refine ⟨r.pp, by rw [List.length_set, List.length_set]; exact r.len, fun j e h => ?_⟩
  by_cases hj : i = j
  · subst hj
    by_cases hl : i < Γ.length
    · rw [List.getElem?_set_self hl] at h
      cases h
    · rw [List.getElem?_eq_none (by simpa using hl)] at h
      cases h
  · rw [List.getElem?_set_ne hj] at h ⊢
    exact r.at_ j e h
def wipeG (Γ : Gm) : List Nat → Gm
  | [] => Γ
  | v :: vs => (wipeG Γ vs).set v none
theorem Rep.wipe (r : Rep B H σ Γ) : ∀ vs : List Nat, Rep B H (L2.wipe σ vs) (wipeG Γ vs)
  | [] => r
  | v :: vs => (Rep.wipe r vs).drop v none
/-- less is known -/
theorem Rep.weak {Γ' : Gm} (r : Rep B H σ Γ) (hl : Γ'.length = Γ.length) (h : ∀ (i : Nat) (d : D), Γ'[i]? = some (some d) → Γ[i]? = some (some d)) : Rep B H σ Γ' := ⟨r.pp, r.len.trans hl.symm, fun i d e => r.at_ i d (h i d e)⟩
end

/-! ### all but what is being changed stays -/
structure Sm (B : Bs) (H H' : Hp) : Prop where
  off : ∀ a u, ¬ B.pp a → H a = some u → H' a = some u
  fz : ∀ a o u, H a = some (.frz o u) → H' a = some (.frz o u)
  th : ∀ a, H a ≠ none → H' a ≠ none
theorem Sm.of {B : Bs} {H H' : Hp} (e : Same H H') : Sm B H H' := ⟨fun a u _ h => e a u h, fun a o u h => e a _ h, fun a h z => by
  cases q : H a with
  | none => exact h q
  | some u => rw [e a u q] at z; cases z⟩
theorem Sm.refl {B : Bs} (H : Hp) : Sm B H H := .of (Same.refl H)
theorem Sm.trans {B : Bs} {H H1 H2 : Hp} (a : Sm B H H1) (b : Sm B H1 H2) : Sm B H H2 := ⟨fun x u n h => b.off x u n (a.off x u n h), fun x o u h => b.fz x o u (a.fz x o u h), fun x h => b.th x (a.th x h)⟩
theorem Sm.pp {B : Bs} {H H' : Hp} (s : Sm B H H') (h : Pp B H) : Pp B H' := fun a p => s.th a (h a p)
theorem Sm.rd {B : Bs} {H H' : Hp} (s : Sm B H H') {a : Addr} {u : HO} (n : ¬ B.pp a) (h : Rd H a u) : Rd H' a u := by
  rcases h with h | ⟨o, h⟩
  · exact .inl (s.off _ _ n h)
  · exact .inr ⟨o, s.fz _ _ _ h⟩
theorem Sm.pt {B : Bs} {H H' : Hp} (s : Sm B H H') {K : PySem.W.Frag} {a : Addr} {xs : List V} (h : PT K H a xs) : PT K H' a xs := by
  rcases h with ⟨o, h, h2⟩ | h
  · exact .inl ⟨o, s.fz _ _ _ h, h2⟩
  · exact .inr h
mutual
theorem R.sm {B : Bs} {H H' : Hp} (s : Sm B H H') : ∀ {v : V} {d : D}, R B H v d → R B H' v d
  | _, _, .non => .non
  | _, _, .bl b => .bl b
  | _, _, .int i => .int i
  | _, _, .str x => .str x
  | _, _, .tup h r => .tup (s.pt h) (RA.sm s r)
  | _, _, .lst h n r => .lst (s.off _ _ n h) n (RA.sm s r)
  | _, _, .dk h n r => .dk (s.rd n h) n r
  | _, _, .dn h n r => .dn (s.rd n h) n (RE.sm s r)
  | _, _, .raw v => .raw v
theorem RA.sm {B : Bs} {H H' : Hp} (s : Sm B H H') : ∀ {vs : List V} {ds : List D}, RA B H vs ds → RA B H' vs ds
  | _, _, .nil => .nil
  | _, _, .cons r t => .cons (R.sm s r) (RA.sm s t)
theorem RE.sm {B : Bs} {H H' : Hp} (s : Sm B H H') : ∀ {es : List (NestedKey × Addr × V)} {kvs : List (D × D)}, RE B H es kvs → RE B H' es kvs
  | _, _, .nil => .nil
  | _, _, .cons h1 h2 r1 r2 t => .cons h1 h2 (R.sm s r1) (R.sm s r2) (RE.sm s t)
end
theorem Rep.sm {B : Bs} {H H' : Hp} {σ : L2.St} {Γ : Gm} (r : Rep B H σ Γ) (s : Sm B H H') : Rep B H' σ Γ := ⟨s.pp r.pp, r.len, fun i d z => let ⟨v, h, q⟩ := r.at_ i d z; ⟨v, h, q.sm s⟩⟩
/-! from one such set to another -/
mutual
theorem R.pp {B : Bs} {pp' : Addr → Prop} {H : Hp} (k : ∀ a, ¬ B.pp a → H a ≠ none → ¬ pp' a) : ∀ {v : V} {d : D}, R B H v d → R ⟨B.P, B.w, B.K, pp'⟩ H v d
  | _, _, .non => .non
  | _, _, .bl b => .bl b
  | _, _, .int i => .int i
  | _, _, .str x => .str x
  | _, _, .tup h r => .tup h (RA.pp k r)
  | _, _, .lst h n r => .lst h (k _ n (by rw [h]; exact fun z => nomatch z)) (RA.pp k r)
  | _, _, .dk h n r => .dk h (k _ n (by
      rcases h with h | ⟨o, h⟩ <;> (rw [h]; exact fun z => nomatch z))) r
  | _, _, .dn h n r => .dn h (k _ n (by
      rcases h with h | ⟨o, h⟩ <;> (rw [h]; exact fun z => nomatch z))) (RE.pp k r)
  | _, _, .raw v => .raw v
theorem RA.pp {B : Bs} {pp' : Addr → Prop} {H : Hp} (k : ∀ a, ¬ B.pp a → H a ≠ none → ¬ pp' a) : ∀ {vs : List V} {ds : List D}, RA B H vs ds → RA ⟨B.P, B.w, B.K, pp'⟩ H vs ds
  | _, _, .nil => .nil
  | _, _, .cons r t => .cons (R.pp k r) (RA.pp k t)
theorem RE.pp {B : Bs} {pp' : Addr → Prop} {H : Hp} (k : ∀ a, ¬ B.pp a → H a ≠ none → ¬ pp' a) : ∀ {es : List (NestedKey × Addr × V)} {kvs : List (D × D)}, RE B H es kvs → RE ⟨B.P, B.w, B.K, pp'⟩ H es kvs
  | _, _, .nil => .nil
  | _, _, .cons h1 h2 r1 r2 t => .cons h1 h2 (R.pp k r1) (R.pp k r2) (RE.pp k t)
end
theorem R.shut {B : Bs} {p : Addr} {H : Hp} {v : V} {d : D} (r : R (B.op p) H v d) : R B H v d := R.pp (B := B.op p) (pp' := B.pp) (fun a n _ z => n (.inl z)) r
theorem RA.shut {B : Bs} {p : Addr} {H : Hp} {v : List V} {d : List D} (r : RA (B.op p) H v d) : RA B H v d := RA.pp (B := B.op p) (pp' := B.pp) (fun a n _ z => n (.inl z)) r
theorem R.opn {B : Bs} {p : Addr} {H : Hp} {v : V} {d : D} (r : R B H v d) (h : H p = none) : R (B.op p) H v d := R.pp (pp' := fun a => B.pp a ∨ a = p) (fun a n e z => z.elim n fun q => e (q ▸ h)) r
theorem RA.opn {B : Bs} {p : Addr} {H : Hp} {v : List V} {d : List D} (r : RA B H v d) (h : H p = none) : RA (B.op p) H v d := RA.pp (pp' := fun a => B.pp a ∨ a = p) (fun a n e z => z.elim n fun q => e (q ▸ h)) r
/-! ### judgements over data -/
section
variable (B : Bs)
def EG (te : TE) (Γ : Gm) (d : D) : Prop := ∀ (σ : L2.St) (H : Hp), Rep B H σ Γ → ∀ Q : VK, (∀ v H', Same H H' → R B H' v d → Q v H') → te σ H Q
def TGd (tt : TT) (Γ : Gm) (b : Bool) : Prop := ∀ (σ : L2.St) (H : Hp), Rep B H σ Γ → ∀ Q : Bool → Hp → Prop, (∀ H', Same H H' → Q b H') → tt σ H Q
def AG (ta : TA) (Γ : Gm) (ds : List D) : Prop := ∀ (σ : L2.St) (H : Hp), Rep B H σ Γ → ∀ Q : List V → Hp → Prop, (∀ vs H', Same H H' → RA B H' vs ds → Q vs H') → ta σ H Q
/-- a two-place operation on values, over data -/
def OG (r : R2) (d e f : D) : Prop := ∀ (H : Hp) (x y : V), Pp B H → R B H x d → R B H y e → ∀ Q : VK, (∀ v H', Same H H' → R B H' v f → Q v H') → r x y H Q
/-- a call of a known value -/
def CG (r : List V → Hp → VK → Prop) (ds : List D) (f : D) : Prop := ∀ (H : Hp) (xs : List V), Pp B H → RA B H xs ds → ∀ Q : VK, (∀ v H', Same H H' → R B H' v f → Q v H') → r xs H Q
inductive Out where
  | nx (Γ : Gm)
  | rt (d : D)
  | bk (Γ : Gm)
  | ct (Γ : Gm)
def SG (ts : TS) (Γ : Gm) (O : Out → Prop) : Prop := ∀ (σ : L2.St) (H : Hp) (E : Ends), Rep B H σ Γ →
  (∀ σ' H' Γ', Same H H' → Rep B H' σ' Γ' → O (.nx Γ') → E.nx σ' H') → (∀ v H' d, Same H H' → R B H' v d → O (.rt d) → E.rt v H') →
  (∀ σ' H' Γ', Same H H' → Rep B H' σ' Γ' → O (.bk Γ') → E.bk σ' H') → (∀ σ' H' Γ', Same H H' → Rep B H' σ' Γ' → O (.ct Γ') → E.ct σ' H') → ts E σ H
/-- targets: js the slots that are stored; what they stand for behind -/
def GG (g : TG) (js : List Nat) (d : D) (Γ Γ' : Gm) : Prop := ∀ (σ : L2.St) (H : Hp) (v : V), Rep B H σ Γ → R B H v d → ∀ Q : L2.St → Hp → Prop,
  (∀ σ', Rep B H σ' Γ' → (∀ vs : List Nat, (∀ j ∈ js, j ∈ vs) → L2.wipe σ' vs = L2.wipe σ vs) → Q σ' H) → g v σ H Q
def GGs (g : TGs) (js : List Nat) (ds : List D) (Γ Γ' : Gm) : Prop := ∀ (σ : L2.St) (H : Hp) (vs : List V), Rep B H σ Γ → RA B H vs ds → ∀ Q : L2.St → Hp → Prop,
  (∀ σ', Rep B H σ' Γ' → (∀ ws : List Nat, (∀ j ∈ js, j ∈ ws) → L2.wipe σ' ws = L2.wipe σ ws) → Q σ' H) → g vs σ H Q
end
end Tl
end
section
set_option Elab.async false
set_option linter.all false
set_option maxRecDepth 100000
set_option maxHeartbeats 2000000
set_option autoImplicit false
/-! Rules over data: expressions, tests, arguments. -/
namespace Tl
open PySem PySem.Spec PyProof.Rows L2

theorem same_new {H : Hp} {p : Addr} {o : HO} (h : H p = none) : Same H (upd H p o) := fun b x e => by
  rw [upd_ne (ne_of_none e h)]
  exact e
section
variable {B : Bs} {Γ : Gm} {ta tb tc : TE} {d e f : D}
theorem eg_var {i : Nat} (h : Γ[i]? = some (some d)) : EG B (tVar i) Γ d := fun σ H r Q q => by
  obtain ⟨v, hv, hr⟩ := r.at_ i d h
  exact ⟨v, hv, q v H (Same.refl H) hr⟩
theorem eg_int {i : Int} : EG B (tC (.int i)) Γ (.int i) := fun σ H r Q q => q _ H (Same.refl H) (.int i)
theorem eg_str {x : Str} : EG B (tC (.str x)) Γ (.str x) := fun σ H r Q q => q _ H (Same.refl H) (.str x)
theorem eg_bl {b : Bool} : EG B (tC (.bl b)) Γ (.bl b) := fun σ H r Q q => q _ H (Same.refl H) (.bl b)
theorem eg_non : EG B (tC .non) Γ .non := fun σ H r Q q => q _ H (Same.refl H) .non
theorem eg_raw {v : V} : EG B (tC v) Γ (.raw v) := fun σ H r Q q => q _ H (Same.refl H) (.raw v)
/-- a constant of the module that is a tuple -/
theorem eg_kt {a : Addr} {xs : List V} {ds : List D} (h : ∀ H, PT B.K H a xs) (r : ∀ H, RA B H xs ds) : EG B (tC (.ref a)) Γ (.tup ds) := fun σ H _ Q q => q _ H (Same.refl H) (.tup (h H) (r H))
theorem eg_is (h : EG B ta Γ d) (e' : d = e) : EG B ta Γ e := e' ▸ h
theorem tg_is {tt : TT} {b c : Bool} (h : TGd B tt Γ b) (e' : b = c) : TGd B tt Γ c := e' ▸ h
theorem eg_op {r : R2} (ha : EG B ta Γ d) (hb : EG B tb Γ e) (hr : OG B r d e f) : EG B (tOp r ta tb) Γ f := fun σ H w Q q =>
  ha σ H w _ fun x H1 e1 r1 => hb σ H1 (w.ext e1) _ fun y H2 e2 r2 => hr H2 x y ((w.ext e1).ext e2).pp (r1.ext e2) r2 Q fun z H3 e3 r3 => q z H3 (e1.trans (e2.trans e3)) r3
theorem eg_un {r : V → Hp → VK → Prop} {i j : Int} (ha : EG B ta Γ (.int i)) (hr : ∀ H Q, Q (.int j) H → r (.int i) H Q) : EG B (tUn r ta) Γ (.int j) := fun σ H w Q q =>
  ha σ H w _ fun x H1 e1 r1 => by
    obtain rfl := r1.int_inv
    exact hr H1 Q (q _ H1 e1 (.int j))
theorem eg_neg {i : Int} (ha : EG B ta Γ (.int i)) : EG B (tUn (rU fun i => .int (-i)) ta) Γ (.int (-i)) := eg_un ha fun H Q q => ⟨i, rfl, q⟩
/-! operations -/
theorem og_I0 {g : Int → Int → V} {i j : Int} (h : ∀ H, R B H (g i j) f) : OG B (rI0 g) (.int i) (.int j) f := fun H x y pq rx ry Q q => by
  obtain rfl := rx.int_inv
  obtain rfl := ry.int_inv
  exact ⟨i, j, rfl, rfl, q _ H (Same.refl H) (h H)⟩
theorem og_I {C : Int → Int → Prop} {g : Int → Int → V} {i j : Int} (hc : C i j) (h : ∀ H, R B H (g i j) f) : OG B (rI C g) (.int i) (.int j) f := fun H x y pq rx ry Q q => by
  obtain rfl := rx.int_inv
  obtain rfl := ry.int_inv
  exact ⟨i, j, rfl, rfl, hc, q _ H (Same.refl H) (h H)⟩
theorem og_or1 {r r' : R2} (h : OG B r d e f) : OG B (fun x y H Q => r x y H Q ∨ r' x y H Q) d e f := fun H x y pq rx ry Q q => .inl (h H x y pq rx ry Q q)
theorem og_or2 {r r' : R2} (h : OG B r' d e f) : OG B (fun x y H Q => r x y H Q ∨ r' x y H Q) d e f := fun H x y pq rx ry Q q => .inr (h H x y pq rx ry Q q)
/-- a + b: ints, lists, tuples -/
def rAddA (K : PySem.W.Frag) : R2 := fun x y H Q => rI0 (fun i j => .int (i + j)) x y H Q ∨ (rCat x y H Q ∨ rCatF K x y H Q)
theorem op_addA {X : Cx} : OpR X (binaryOp .Add) (rAddA X.K) := op_add.or (op_cat.or op_catF)
theorem eg_add {i j : Int} (ha : EG B ta Γ (.int i)) (hb : EG B tb Γ (.int j)) : EG B (tOp (rAddA B.K) ta tb) Γ (.int (i + j)) := eg_op ha hb (og_or1 (og_I0 fun H => .int _))
theorem og_cat {ds es : List D} (h : ds.length + es.length ≤ sizeLine) : OG B rCat (.lst ds) (.lst es) (.lst (ds ++ es)) := fun H x y pq rx ry Q q => by
  obtain ⟨a, xs, rfl, hx, rx⟩ := rx.lst_inv
  obtain ⟨b, ys, rfl, hy, ry⟩ := ry.lst_inv
  refine ⟨a, b, xs, ys, rfl, rfl, hx, hy, by rw [rx.length, ry.length]; exact h, fun p hp => ?_⟩
  exact q _ _ (same_new hp) (.lst upd_same (pq.new hp) ((rx.append ry).ext (same_new hp)))
theorem og_catT {ds es : List D} (h : ds.length + es.length ≤ sizeLine) : OG B (rCatF B.K) (.tup ds) (.tup es) (.tup (ds ++ es)) := fun H x y pq rx ry Q q => by
  obtain ⟨a, xs, rfl, hx, rx⟩ := rx.tup_inv
  obtain ⟨b, ys, rfl, hy, ry⟩ := ry.tup_inv
  refine ⟨a, b, xs, ys, rfl, rfl, hx.sq, hy.sq, by rw [rx.length, ry.length]; exact h, fun e1 => ?_, fun e1 e2 => ?_, fun e1 e2 p o hp ho => ?_⟩
  · have e3 : ds = [] := List.length_eq_zero_iff.mp (by rw [← rx.length, e1]; rfl)
    subst e3
    exact q _ H (Same.refl H) (.tup hy ry)
  · have e3 : es = [] := List.length_eq_zero_iff.mp (by rw [← ry.length, e2]; rfl)
    subst e3
    rw [List.append_nil] at q
    exact q _ H (Same.refl H) (.tup hx rx)
  · exact q _ _ (same_new hp) (.tup (PT.new ho) ((rx.append ry).ext (same_new hp)))
theorem eg_cat {ds es : List D} (ha : EG B ta Γ (.lst ds)) (hb : EG B tb Γ (.lst es)) (h : ds.length + es.length ≤ sizeLine) : EG B (tOp (rAddA B.K) ta tb) Γ (.lst (ds ++ es)) := eg_op ha hb (og_or2 (og_or1 (og_cat h)))
theorem eg_catT {ds es : List D} (ha : EG B ta Γ (.tup ds)) (hb : EG B tb Γ (.tup es)) (h : ds.length + es.length ≤ sizeLine) : EG B (tOp (rAddA B.K) ta tb) Γ (.tup (ds ++ es)) := eg_op ha hb (og_or2 (og_or2 (og_catT h)))
theorem eg_sub {i j : Int} (ha : EG B ta Γ (.int i)) (hb : EG B tb Γ (.int j)) : EG B (tOp (rI0 fun i j => .int (i - j)) ta tb) Γ (.int (i - j)) := eg_op ha hb (og_I0 fun H => .int _)
/-- a * b: of any size -/
def rMulA : R2 := fun x y H Q => rI CMul (fun i j => .int (i * j)) x y H Q ∨ rI CMulW (fun i j => .int (i * j)) x y H Q
theorem op_mulA {X : Cx} : OpR X (binaryOp .Mult) rMulA := op_mul.or op_mulW
theorem eg_mul {i j : Int} (ha : EG B ta Γ (.int i)) (hb : EG B tb Γ (.int j)) (h : CMul i j ∨ CMulW i j) : EG B (tOp rMulA ta tb) Γ (.int (i * j)) := by
  rcases h with h | h
  · exact eg_op ha hb (og_or1 (og_I h fun H => .int _))
  · exact eg_op ha hb (og_or2 (og_I h fun H => .int _))
theorem eg_fdiv {i j : Int} (ha : EG B ta Γ (.int i)) (hb : EG B tb Γ (.int j)) (h : CDivW i j) : EG B (tOp (rI CDivW fun i j => .int (i / j)) ta tb) Γ (.int (i / j)) := eg_op ha hb (og_I h fun H => .int _)
theorem eg_mod {i j : Int} (ha : EG B ta Γ (.int i)) (hb : EG B tb Γ (.int j)) (h : 0 < j) : EG B (tOp (rI (fun _ j => 0 < j) fun i j => .int (i % j)) ta tb) Γ (.int (i % j)) := eg_op ha hb (og_I h fun H => .int _)
theorem eg_pow {i j : Int} (ha : EG B ta Γ (.int i)) (hb : EG B tb Γ (.int j)) (h : CPow i j) : EG B (tOp (rI CPow fun i j => .int (i ^ j.toNat)) ta tb) Γ (.int (i ^ j.toNat)) := eg_op ha hb (og_I h fun H => .int _)
/-! comparisons of ints -/
theorem eg_lt {i j : Int} (ha : EG B ta Γ (.int i)) (hb : EG B tb Γ (.int j)) : EG B (tOp (rI0 fun i j => .bl (decide (i < j))) ta tb) Γ (.bl (decide (i < j))) := eg_op ha hb (og_I0 fun H => .bl _)
theorem eg_le {i j : Int} (ha : EG B ta Γ (.int i)) (hb : EG B tb Γ (.int j)) : EG B (tOp (rI0 fun i j => .bl (decide (i ≤ j))) ta tb) Γ (.bl (decide (i ≤ j))) := eg_op ha hb (og_I0 fun H => .bl _)
theorem eg_gt {i j : Int} (ha : EG B ta Γ (.int i)) (hb : EG B tb Γ (.int j)) : EG B (tOp (rI0 fun i j => .bl (decide (j < i))) ta tb) Γ (.bl (decide (j < i))) := eg_op ha hb (og_I0 fun H => .bl _)
theorem eg_ge {i j : Int} (ha : EG B ta Γ (.int i)) (hb : EG B tb Γ (.int j)) : EG B (tOp (rI0 fun i j => .bl (decide (j ≤ i))) ta tb) Γ (.bl (decide (j ≤ i))) := eg_op ha hb (og_I0 fun H => .bl _)
/-! == and != -/
/-- flat data as a value -/
def fv : D → Option V
  | .non => some .non
  | .bl b => some (.bl b)
  | .int i => some (.int i)
  | .str x => some (.str x)
  | _ => none
theorem fv_eq {H : Hp} {v : V} {x : V} (r : R B H v d) (h : fv d = some x) : v = x := by
  cases r <;> simp only [fv, Option.some.injEq, reduceCtorEq] at h <;> first | exact h | cases h
def rEqA (K : PySem.W.Frag) : R2 := fun x y H Q => rEq x y H Q ∨ rEqD K x y H Q
def rNeA (K : PySem.W.Frag) : R2 := fun x y H Q => rNe x y H Q ∨ rNeD K x y H Q
theorem op_eqA {X : Cx} (hu : X.A.units + 64 < cLine) : OpR X (compareOp .Eq) (rEqA X.K) := op_eq.or (op_eqD hu)
theorem op_neA {X : Cx} (hu : X.A.units + 64 < cLine) : OpR X (compareOp .NotEq) (rNeA X.K) := op_ne.or (op_neD hu)
theorem eg_eqS {x y : V} (ha : EG B ta Γ d) (hb : EG B tb Γ e) (hx : fv d = some x) (hy : fv e = some y) (hs : scal x y = true) : EG B (tOp (rEqA B.K) ta tb) Γ (.bl (decide (x = y))) :=
  eg_op ha hb (og_or1 fun H v u pq rx ry Q q => by
    obtain rfl := fv_eq rx hx
    obtain rfl := fv_eq ry hy
    exact ⟨hs, q _ H (Same.refl H) (.bl _)⟩)
theorem eg_neS {x y : V} (ha : EG B ta Γ d) (hb : EG B tb Γ e) (hx : fv d = some x) (hy : fv e = some y) (hs : scal x y = true) : EG B (tOp (rNeA B.K) ta tb) Γ (.bl (!decide (x = y))) :=
  eg_op ha hb (og_or1 fun H v u pq rx ry Q q => by
    obtain rfl := fv_eq rx hx
    obtain rfl := fv_eq ry hy
    exact ⟨hs, q _ H (Same.refl H) (.bl _)⟩)
theorem eg_eqI {i j : Int} (ha : EG B ta Γ (.int i)) (hb : EG B tb Γ (.int j)) : EG B (tOp (rEqA B.K) ta tb) Γ (.bl (decide (i = j))) := eg_is (eg_eqS ha hb rfl rfl rfl) (by
  congr 1
  by_cases h : i = j
  · rw [decide_eq_true h, decide_eq_true (congrArg V.int h)]
  · rw [decide_eq_false h, decide_eq_false fun z => h (V.int.inj z)])
theorem eg_eqStr {i j : Str} (ha : EG B ta Γ (.str i)) (hb : EG B tb Γ (.str j)) : EG B (tOp (rEqA B.K) ta tb) Γ (.bl (decide (i = j))) := eg_is (eg_eqS ha hb rfl rfl rfl) (by
  congr 1
  by_cases h : i = j
  · rw [decide_eq_true h, decide_eq_true (congrArg V.str h)]
  · rw [decide_eq_false h, decide_eq_false fun z => h (V.str.inj z)])
theorem eg_eqD (ha : EG B ta Γ d) (hb : EG B tb Γ e) (hd : pl d = true) (he : pl e = true) (sd : SeqAt.shaped (py d) = true) (se : SeqAt.shaped (py e) = true) : EG B (tOp (rEqA B.K) ta tb) Γ (.bl (PyData.eqv (py d) (py e))) :=
  eg_op ha hb (og_or2 fun H v u pq rx ry Q q => ⟨py d, py e, rx.dp hd, ry.dp he, sd, se, q _ H (Same.refl H) (.bl _)⟩)
theorem eg_neD (ha : EG B ta Γ d) (hb : EG B tb Γ e) (hd : pl d = true) (he : pl e = true) (sd : SeqAt.shaped (py d) = true) (se : SeqAt.shaped (py e) = true) : EG B (tOp (rNeA B.K) ta tb) Γ (.bl (!PyData.eqv (py d) (py e))) :=
  eg_op ha hb (og_or2 fun H v u pq rx ry Q q => ⟨py d, py e, rx.dp hd, ry.dp he, sd, se, q _ H (Same.refl H) (.bl _)⟩)
/-! is None -/
def rIsNn : R2 := fun x y H Q => y = .non ∧ Q (.bl (decide (x = .non))) H
def rNotNn : R2 := fun x y H Q => y = .non ∧ Q (.bl (!decide (x = .non))) H
theorem op_isNn {X : Cx} : OpR X (compareOp .Is) rIsNn := op_isN
theorem op_notNn {X : Cx} : OpR X (compareOp .IsNot) rNotNn := op_notN
def isNon : D → Option Bool
  | .non => some true
  | .raw _ => none
  | _ => some false
theorem isNon_ok {H : Hp} {v : V} {b : Bool} (r : R B H v d) (h : isNon d = some b) : decide (v = .non) = b := by
  cases r <;> simp only [isNon, Option.some.injEq, reduceCtorEq] at h <;> first | (subst h; rfl) | cases h
theorem eg_isN {b : Bool} (ha : EG B ta Γ d) (h : isNon d = some b) : EG B (tOp rIsNn ta (tC .non)) Γ (.bl b) := eg_op ha eg_non fun H x y pq rx ry Q q => by
  obtain rfl := ry.non_inv
  exact ⟨rfl, q _ H (Same.refl H) (by rw [isNon_ok rx h]; exact .bl b)⟩
theorem eg_notN {b : Bool} (ha : EG B ta Γ d) (h : isNon d = some b) : EG B (tOp rNotNn ta (tC .non)) Γ (.bl (!b)) := eg_op ha eg_non fun H x y pq rx ry Q q => by
  obtain rfl := ry.non_inv
  exact ⟨rfl, q _ H (Same.refl H) (by rw [isNon_ok rx h]; exact .bl (!b))⟩
/-! subscripts -/
def rIxA (K : PySem.W.Frag) : R2 := fun x y H Q => rIxL K x y H Q ∨ rIxT K x y H Q
theorem ix_any {X : Cx} : IxR X (rIxA X.K) := ix_list.or ix_tup
theorem ixN_lt {n : Nat} {i : Int} {j : Nat} (h : ixN n i = some j) : j < n := (ixN_seq h).2.1
theorem ra_at {H : Hp} {xs : List V} {ds : List D} {i : Int} (r : RA B H xs ds) (h : atI ds i = some d) : ∃ v, atI xs i = some v ∧ R B H v d := by
  unfold atI at h ⊢
  rw [r.length]
  cases e : ixN ds.length i with
  | none => rw [e] at h; cases h
  | some j =>
    rw [e] at h
    exact r.get h
theorem eg_ixL {ds : List D} {i : Int} (ha : EG B ta Γ (.lst ds)) (hb : EG B tb Γ (.int i)) (h : atI ds i = some d) : EG B (tOp (rIxA B.K) ta tb) Γ d := eg_op ha hb (og_or1 fun H x y pq rx ry Q q => by
  obtain ⟨a, xs, rfl, hx, rx⟩ := rx.lst_inv
  obtain rfl := ry.int_inv
  obtain ⟨v, hv, rv⟩ := ra_at rx h
  exact ⟨a, xs, i, v, rfl, rfl, SqL.of hx, hv, q v H (Same.refl H) rv⟩)
theorem eg_ixT {ds : List D} {i : Int} (ha : EG B ta Γ (.tup ds)) (hb : EG B tb Γ (.int i)) (h : atI ds i = some d) : EG B (tOp (rIxA B.K) ta tb) Γ d := eg_op ha hb (og_or2 fun H x y pq rx ry Q q => by
  obtain ⟨a, xs, rfl, hx, rx⟩ := rx.tup_inv
  obtain rfl := ry.int_inv
  obtain ⟨v, hv, rv⟩ := ra_at rx h
  exact ⟨a, xs, i, v, rfl, rfl, hx.sq, hv, q v H (Same.refl H) rv⟩)
/-! in: flat things in a tuple or list -/
def rInA (K : PySem.W.Frag) : R2 := fun x y H Q => rIn K false x y H Q
theorem flat_fv {H : Hp} {v x : V} (r : R B H v d) (h : fv d = some x) : flatV v = true := by
  rw [fv_eq r h]
  cases d <;> simp only [fv, Option.some.injEq, reduceCtorEq] at h <;> first | (subst h; rfl) | cases h
def fvs : List D → Option (List V)
  | [] => some []
  | d :: ds => (fv d).bind fun x => (fvs ds).map (x :: ·)
theorem fvs_eq {H : Hp} : ∀ {vs : List V} {ds : List D} {xs : List V}, RA B H vs ds → fvs ds = some xs → vs = xs ∧ vs.all flatV = true
  | _, _, _, .nil, h => by simp only [fvs, Option.some.injEq] at h; subst h; exact ⟨rfl, rfl⟩
  | _, _, _, .cons (d := d) (ds := ds) r t, h => by
    unfold fvs at h
    cases e : fv d with
    | none => rw [e] at h; cases h
    | some y =>
      rw [e] at h
      cases e2 : fvs ds with
      | none => rw [e2] at h; cases h
      | some ys =>
        rw [e2] at h
        cases h
        obtain ⟨h1, h2⟩ := fvs_eq t e2
        refine ⟨by rw [fv_eq r e, h1], ?_⟩
        rw [List.all_cons, flat_fv r e, h2]
        rfl
theorem og_inT {neg : Bool} {x : V} {xs : List V} {es : List D} (hx : fv d = some x) (hxs : fvs es = some xs) : OG B (rIn B.K neg) d (.tup es) (.bl (if neg then !inV x xs else inV x xs)) := fun H v u pq rx ry Q q => by
  obtain ⟨a, ys, rfl, hy, ry⟩ := ry.tup_inv
  obtain ⟨h1, h2⟩ := fvs_eq ry hxs
  obtain ⟨h3, h4⟩ := And.intro (fv_eq rx hx) (flat_fv rx hx)
  subst h1 h3
  exact ⟨a, ys, rfl, .inr hy.sq, h4, h2, q _ H (Same.refl H) (.bl _)⟩
theorem og_inL {neg : Bool} {x : V} {xs : List V} {es : List D} (hx : fv d = some x) (hxs : fvs es = some xs) : OG B (rIn B.K neg) d (.lst es) (.bl (if neg then !inV x xs else inV x xs)) := fun H v u pq rx ry Q q => by
  obtain ⟨a, ys, rfl, hy, ry⟩ := ry.lst_inv
  obtain ⟨h1, h2⟩ := fvs_eq ry hxs
  obtain ⟨h3, h4⟩ := And.intro (fv_eq rx hx) (flat_fv rx hx)
  subst h1 h3
  exact ⟨a, ys, rfl, .inl (SqL.of hy), h4, h2, q _ H (Same.refl H) (.bl _)⟩
/-! an int in a dict with int keys -/
def rInDk : R2 := fun y x H Q => ∃ a o, x = .ref a ∧ DGet H a y o ∧ Q (.bl o.isSome) H
def rNotInDk : R2 := fun y x H Q => ∃ a o, x = .ref a ∧ DGet H a y o ∧ Q (.bl (!o.isSome)) H
theorem op_inDk {X : Cx} (hu : X.A.units + 1 < cLine) : OpR X (compareOp .In) rInDk := by
  intro pins s σ H x y v u Q I rx ry h
  obtain ⟨a, o, rfl, g, q⟩ := h
  cases ry
  exact d_in hu I g rx fun s' I' => ⟨.bl o.isSome, H, I', rfl, q⟩
theorem op_notInDk {X : Cx} (hu : X.A.units + 1 < cLine) : OpR X (compareOp .NotIn) rNotInDk := by
  intro pins s σ H x y v u Q I rx ry h
  obtain ⟨a, o, rfl, g, q⟩ := h
  cases ry
  exact d_notIn hu I g rx fun s' I' => ⟨.bl (!o.isSome), H, I', rfl, q⟩
theorem val_keys {kvs : List (Key × V)} {ks : List Int} (h : kvs.map (·.1) = ks.map Sum.inl) (k : Int) : (valV kvs (Sum.inl k)).isSome = decide (k ∈ ks) := by
  rw [← valV_any, Bool.eq_iff_iff, List.any_eq_true, decide_eq_true_iff]
  constructor
  · rintro ⟨p, hp, e⟩
    have e1 : p.1 ∈ kvs.map (·.1) := List.mem_map.mpr ⟨p, hp, rfl⟩
    rw [h] at e1
    obtain ⟨j, hj, e2⟩ := List.mem_map.mp e1
    have e3 := of_decide_eq_true e
    rw [← e2] at e3
    rw [← Sum.inl.inj e3]
    exact hj
  · intro hk
    have e1 : (Sum.inl k : Key) ∈ kvs.map (·.1) := by
      rw [h]
      exact List.mem_map.mpr ⟨k, hk, rfl⟩
    obtain ⟨p, hp, e⟩ := List.mem_map.mp e1
    exact ⟨p, hp, decide_eq_true e⟩
theorem dget_rd {H : Hp} {a : Addr} {kvs : List (Key × V)} {k : Int} (h : Rd H a (.dK kvs)) : DGet H a (.int k) (valV kvs (Sum.inl k)) := .inl ⟨kvs, Sum.inl k, h, rfl, rfl⟩
theorem og_inDk {k : Int} {ks : List Int} : OG B rInDk (.int k) (.dk ks) (.bl (decide (k ∈ ks))) := fun H x y pq rx ry Q q => by
  obtain rfl := rx.int_inv
  obtain ⟨a, kvs, rfl, h, e⟩ := ry.dk_inv
  refine ⟨a, _, rfl, dget_rd h, q _ H (Same.refl H) ?_⟩
  rw [val_keys e]
  exact .bl _
theorem og_notInDk {k : Int} {ks : List Int} : OG B rNotInDk (.int k) (.dk ks) (.bl (!decide (k ∈ ks))) := fun H x y pq rx ry Q q => by
  obtain rfl := rx.int_inv
  obtain ⟨a, kvs, rfl, h, e⟩ := ry.dk_inv
  refine ⟨a, _, rfl, dget_rd h, q _ H (Same.refl H) ?_⟩
  rw [val_keys e]
  exact .bl _
/-- in, not in -/
def rInX (K : PySem.W.Frag) : R2 := fun x y H Q => rIn K false x y H Q ∨ rInDk x y H Q
def rNiX (K : PySem.W.Frag) : R2 := fun x y H Q => rIn K true x y H Q ∨ rNotInDk x y H Q
theorem op_inX {X : Cx} (hu : X.A.units + 1 < cLine) : OpR X (compareOp .In) (rInX X.K) := op_in_seq.or (op_inDk hu)
theorem op_niX {X : Cx} (hu : X.A.units + 1 < cLine) : OpR X (compareOp .NotIn) (rNiX X.K) := op_notIn_seq.or (op_notInDk hu)
theorem eg_inT {x : V} {xs : List V} {es : List D} (ha : EG B ta Γ d) (hb : EG B tb Γ (.tup es)) (hx : fv d = some x) (hxs : fvs es = some xs) : EG B (tOp (rInX B.K) ta tb) Γ (.bl (inV x xs)) := eg_op ha hb (og_or1 (og_inT (neg := false) hx hxs))
theorem eg_niT {x : V} {xs : List V} {es : List D} (ha : EG B ta Γ d) (hb : EG B tb Γ (.tup es)) (hx : fv d = some x) (hxs : fvs es = some xs) : EG B (tOp (rNiX B.K) ta tb) Γ (.bl (!inV x xs)) := eg_op ha hb (og_or1 (og_inT (neg := true) hx hxs))
theorem eg_inK {k : Int} {ks : List Int} (ha : EG B ta Γ (.int k)) (hb : EG B tb Γ (.dk ks)) : EG B (tOp (rInX B.K) ta tb) Γ (.bl (decide (k ∈ ks))) := eg_op ha hb (og_or2 og_inDk)
theorem eg_niK {k : Int} {ks : List Int} (ha : EG B ta Γ (.int k)) (hb : EG B tb Γ (.dk ks)) : EG B (tOp (rNiX B.K) ta tb) Γ (.bl (!decide (k ∈ ks))) := eg_op ha hb (og_or2 og_notInDk)
/-! arguments, displays -/
theorem ag_nil : AG B tNil Γ [] := fun σ H r Q q => q [] H (Same.refl H) .nil
theorem ag_cons {tr : TA} {ds : List D} (ha : EG B ta Γ d) (hr : AG B tr Γ ds) : AG B (tCons ta tr) Γ (d :: ds) := fun σ H w Q q =>
  ha σ H w _ fun x H1 e1 r1 => hr σ H1 (w.ext e1) _ fun xs H2 e2 r2 => q _ H2 (e1.trans e2) (.cons (r1.ext e2) r2)
theorem eg_tup {t : TA} {ds : List D} (h : AG B t Γ ds) (hl : ds.length ≤ 1000) : EG B (tTupF t) Γ (.tup ds) := fun σ H w Q q =>
  h σ H w _ fun xs H1 e1 r1 => ⟨by rw [r1.length]; exact Nat.le_of_lt (small1000 hl), fun p o hp ho => q _ _ (e1.trans (same_new hp)) (.tup (PT.new ho) (r1.ext (same_new hp)))⟩
theorem eg_lst {t : TA} {ds : List D} (h : AG B t Γ ds) (hl : ds.length ≤ 1000) : EG B (tLst t) Γ (.lst ds) := fun σ H w Q q =>
  h σ H w _ fun xs H1 e1 r1 => ⟨by rw [r1.length]; exact Nat.le_of_lt (small1000 hl), fun p hp => q _ _ (e1.trans (same_new hp)) (.lst upd_same ((w.ext e1).pp.new hp) (r1.ext (same_new hp)))⟩
/-! calls -/
/-- the promise of a def that leaves all as it was -/
def PSp (P : Program) (w : World) (K : PySem.W.Frag) (S : List D → D → Prop) : Sp := fun vs H Q _ => ∃ (pp : Addr → Prop) (ds : List D) (d : D), Pp ⟨P, w, K, pp⟩ H ∧ RA ⟨P, w, K, pp⟩ H vs ds ∧ S ds d ∧ ∀ v H', Same H H' → R ⟨P, w, K, pp⟩ H' v d → Q v H'
theorem eg_call {S : List D → D → Prop} {E : XK} {t : TA} {ds : List D} (h : AG B t Γ ds) (hs : S ds d) : EG B (tCall (PSp B.P B.w B.K S) [] E t) Γ d := fun σ H w Q q =>
  h σ H w _ fun vs H1 e1 r1 => ⟨B.pp, ds, d, (w.ext e1).pp, by rw [List.append_nil]; exact r1, hs, fun v H2 e2 r2 => q v H2 (e1.trans e2) r2⟩
theorem eg_bi {r : List V → Hp → VK → Prop} {t : TA} {ds : List D} (h : AG B t Γ ds) (hr : CG B r ds f) : EG B (tCB r t) Γ f := fun σ H w Q q =>
  h σ H w _ fun vs H1 e1 r1 => hr H1 vs (w.ext e1).pp r1 Q fun v H2 e2 r2 => q v H2 (e1.trans e2) r2
theorem RA.one {H : Hp} {vs : List V} (r : RA B H vs [d]) : ∃ v, vs = [v] ∧ R B H v d := by
  cases r with
  | cons r t => cases t; exact ⟨_, rfl, r⟩
theorem RA.two {H : Hp} {vs : List V} (r : RA B H vs [d, e]) : ∃ v u, vs = [v, u] ∧ R B H v d ∧ R B H u e := by
  cases r with
  | cons r t =>
    cases t with
    | cons r2 t => cases t; exact ⟨_, _, rfl, r, r2⟩
/-! tests -/
theorem tg_test {b : Bool} (h : EG B ta Γ (.bl b)) : TGd B (tTest ta) Γ b := fun σ H w Q q => h σ H w _ fun v H1 e1 r1 => ⟨b, r1.bl_inv, q H1 e1⟩
theorem tg_B {b : Bool} (h : EG B ta Γ (.bl b)) : TGd B (tB ta) Γ b := fun σ H w Q q => h σ H w _ fun v H1 e1 r1 => ⟨b, r1.bl_inv, q H1 e1⟩
theorem tg_not {t : TT} {b : Bool} (h : TGd B t Γ b) : TGd B (tNot t) Γ (!b) := fun σ H w Q q => h σ H w _ q
theorem tg_and {t u : TT} {a b : Bool} (h1 : TGd B t Γ a) (h2 : a = true → TGd B u Γ b) : TGd B (tAnd t u) Γ (a && b) := fun σ H w Q q => h1 σ H w _ fun H1 e1 => by
  cases a with
  | true => exact h2 rfl σ H1 (w.ext e1) Q fun H2 e2 => q H2 (e1.trans e2)
  | false => exact q H1 e1
theorem tg_or {t u : TT} {a b : Bool} (h1 : TGd B t Γ a) (h2 : a = false → TGd B u Γ b) : TGd B (tOr t u) Γ (a || b) := fun σ H w Q q => h1 σ H w _ fun H1 e1 => by
  cases a with
  | true => exact q H1 e1
  | false => exact h2 rfl σ H1 (w.ext e1) Q fun H2 e2 => q H2 (e1.trans e2)
theorem eg_andV {a b : Bool} (h1 : EG B ta Γ (.bl a)) (h2 : a = true → EG B tb Γ (.bl b)) : EG B (tAndV ta tb) Γ (.bl (a && b)) := fun σ H w Q q => h1 σ H w _ fun v H1 e1 r1 => ⟨a, r1.bl_inv, by
  cases a with
  | true => exact h2 rfl σ H1 (w.ext e1) Q fun v H2 e2 => q v H2 (e1.trans e2)
  | false => exact q _ H1 e1 (.bl false)⟩
theorem eg_orV {a b : Bool} (h1 : EG B ta Γ (.bl a)) (h2 : a = false → EG B tb Γ (.bl b)) : EG B (tOrV ta tb) Γ (.bl (a || b)) := fun σ H w Q q => h1 σ H w _ fun v H1 e1 r1 => ⟨a, r1.bl_inv, by
  cases a with
  | true => exact q _ H1 e1 (.bl true)
  | false => exact h2 rfl σ H1 (w.ext e1) Q fun v H2 e2 => q v H2 (e1.trans e2)⟩
theorem eg_notV {a : Bool} (h1 : EG B ta Γ (.bl a)) : EG B (tNotV ta) Γ (.bl (!a)) := fun σ H w Q q => h1 σ H w _ fun v H1 e1 r1 => ⟨a, r1.bl_inv, q _ H1 e1 (.bl _)⟩
theorem eg_if {t : TT} {b : Bool} (h : TGd B t Γ b) (h1 : b = true → EG B ta Γ d) (h2 : b = false → EG B tb Γ d) : EG B (tIf t ta tb) Γ d := fun σ H w Q q => h σ H w _ fun H1 e1 => by
  cases b with
  | true => exact h1 rfl σ H1 (w.ext e1) Q fun v H2 e2 => q v H2 (e1.trans e2)
  | false => exact h2 rfl σ H1 (w.ext e1) Q fun v H2 e2 => q v H2 (e1.trans e2)
end
end Tl
end
section
set_option Elab.async false
set_option linter.all false
set_option maxRecDepth 100000
set_option maxHeartbeats 2000000
set_option autoImplicit false
/-! Rules over data: statements, walks, comprehensions, defs. -/
namespace Tl
open PySem PySem.Spec PyProof.Rows L2
section
variable {B : Bs} {Γ : Gm} {ta tb tc te : TE} {d e f : D} {t u : TS} {O : Out → Prop}
def thenO (k : Gm → Prop) (O : Out → Prop) : Out → Prop
  | .nx Γ => k Γ
  | .rt d => O (.rt d)
  | .bk Γ => O (.bk Γ)
  | .ct Γ => O (.ct Γ)
/-- a value is returned (or None at the end) -/
def Rt (d : D) : Out → Prop
  | .rt e => e = d
  | .nx _ => d = .non
  | _ => False
theorem sg_mono {O' : Out → Prop} (h : SG B t Γ O) (m : ∀ o, O o → O' o) : SG B t Γ O' := fun σ H E r n q b c =>
  h σ H E r (fun σ' H' Γ' e r' o => n σ' H' Γ' e r' (m _ o)) (fun v H' d e r' o => q v H' d e r' (m _ o)) (fun σ' H' Γ' e r' o => b σ' H' Γ' e r' (m _ o)) fun σ' H' Γ' e r' o => c σ' H' Γ' e r' (m _ o)
theorem sg_seq (h : SG B t Γ (thenO (fun Γ' => SG B u Γ' O) O)) : SG B (tSeq t u) Γ O := fun σ H E r n q b c =>
  h σ H { E with nx := u E } r
    (fun σ' H' Γ' e r' o => o σ' H' E r' (fun σ2 H2 Γ2 e2 r2 o2 => n σ2 H2 Γ2 (e.trans e2) r2 o2) (fun v H2 d e2 r2 o2 => q v H2 d (e.trans e2) r2 o2) (fun σ2 H2 Γ2 e2 r2 o2 => b σ2 H2 Γ2 (e.trans e2) r2 o2) fun σ2 H2 Γ2 e2 r2 o2 => c σ2 H2 Γ2 (e.trans e2) r2 o2)
    q b c
theorem sg_next (h : O (.nx Γ)) : SG B tNext Γ O := fun σ H E r n q b c => n σ H Γ (Same.refl H) r h
theorem sg_break (h : O (.bk Γ)) : SG B tBreak Γ O := fun σ H E r n q b c => b σ H Γ (Same.refl H) r h
theorem sg_cont (h : O (.ct Γ)) : SG B tCont Γ O := fun σ H E r n q b c => c σ H Γ (Same.refl H) r h
theorem sg_ret (h : EG B te Γ d) (o : O (.rt d)) : SG B (tRet te) Γ O := fun σ H E r n q b c => h σ H r _ fun v H1 e1 r1 => q v H1 d e1 r1 o
theorem sg_asg {i : Nat} (h : EG B te Γ d) (o : O (.nx (Γ.set i (some d)))) : SG B (tAsg te (gName i)) Γ O := fun σ H E r n q b c =>
  h σ H r _ fun v H1 e1 r1 => n _ H1 _ e1 ((r.ext e1).set i r1) o
theorem sg_asgG {g : TG} {js : List Nat} {Γ' : Gm} (h : EG B te Γ d) (hg : GG B g js d Γ Γ') (o : O (.nx Γ')) : SG B (tAsg te g) Γ O := fun σ H E r n q b c =>
  h σ H r _ fun v H1 e1 r1 => hg σ H1 v (r.ext e1) r1 _ fun σ' r' _ => n σ' H1 Γ' e1 r' o
theorem sg_drop (h : EG B te Γ d) (o : O (.nx Γ)) : SG B (tDrop te) Γ O := fun σ H E r n q b c => h σ H r _ fun v H1 e1 r1 => n σ H1 Γ e1 (r.ext e1) o
theorem sg_if {tt : TT} {b : Bool} (h : TGd B tt Γ b) (h1 : b = true → SG B t Γ O) (h2 : b = false → SG B u Γ O) : SG B (tIfS tt t u) Γ O := fun σ H E r n q k c => h σ H r _ fun H1 e1 => by
  cases b with
  | true => exact h1 rfl σ H1 E (r.ext e1) (fun σ' H' Γ' e r' o => n σ' H' Γ' (e1.trans e) r' o) (fun v H' d e r' o => q v H' d (e1.trans e) r' o) (fun σ' H' Γ' e r' o => k σ' H' Γ' (e1.trans e) r' o) fun σ' H' Γ' e r' o => c σ' H' Γ' (e1.trans e) r' o
  | false => exact h2 rfl σ H1 E (r.ext e1) (fun σ' H' Γ' e r' o => n σ' H' Γ' (e1.trans e) r' o) (fun v H' d e r' o => q v H' d (e1.trans e) r' o) (fun σ' H' Γ' e r' o => k σ' H' Γ' (e1.trans e) r' o) fun σ' H' Γ' e r' o => c σ' H' Γ' (e1.trans e) r' o
theorem sg_par {i j : Nat} {tA : TA} (h : AG B tA Γ [d, e]) (o : O (.nx ((Γ.set i (some d)).set j (some e)))) : SG B (tPar i j tA) Γ O := fun σ H E r n q b c => h σ H r _ fun vs H1 e1 r1 => by
  obtain ⟨v, w, rfl, rv, rw'⟩ := r1.two
  exact ⟨v, w, rfl, n _ H1 _ e1 (((r.ext e1).set i rv).set j rw') o⟩
theorem sg_par3 {i j l : Nat} {tA : TA} (h : AG B tA Γ [d, e, f]) (o : O (.nx (((Γ.set i (some d)).set j (some e)).set l (some f)))) : SG B (tPar3 i j l tA) Γ O := fun σ H E r n q b c => h σ H r _ fun vs H1 e1 r1 => by
  cases r1 with
  | cons ra r1 =>
    obtain ⟨v, w, rfl, rv, rw'⟩ := r1.two
    exact ⟨_, v, w, rfl, n _ H1 _ e1 ((((r.ext e1).set i ra).set j rv).set l rw') o⟩
/-! targets -/
theorem wipe_set {σ : L2.St} {j : Nat} {x : Option V} : ∀ {vs : List Nat}, j ∈ vs → L2.wipe (σ.set j x) vs = L2.wipe σ vs
  | v :: vs, h => by
    unfold L2.wipe
    by_cases hv : j ∈ vs
    · rw [wipe_set hv]
    · have e : j = v := by
        rcases List.mem_cons.mp h with z | z
        · exact z
        · exact absurd z hv
      subst e
      have key : ∀ ws : List Nat, j ∉ ws → L2.wipe (σ.set j x) ws = (L2.wipe σ ws).set j x := by
        intro ws
        induction ws with
        | nil => intro _; rfl
        | cons w ws ih =>
          intro hw
          unfold L2.wipe
          rw [ih fun z => hw (List.mem_cons_of_mem _ z)]
          exact List.set_comm _ _ (fun z => hw (by rw [z]; exact List.mem_cons_self))
      rw [key vs hv, List.set_set]
theorem gg_name {i : Nat} : GG B (gName i) [i] d Γ (Γ.set i (some d)) := fun σ H v r rv Q q => q _ (r.set i rv) fun vs hv => wipe_set (hv i List.mem_cons_self)
theorem ggs_nil : GGs B gNil [] [] Γ Γ := fun σ H vs r rv Q q => by
  cases rv
  exact ⟨rfl, q σ r fun _ _ => rfl⟩
theorem ggs_cons {g : TG} {gs : TGs} {js ks : List Nat} {ds : List D} {Γ1 Γ2 : Gm} (h1 : GG B g js d Γ Γ1) (h2 : GGs B gs ks ds Γ1 Γ2) : GGs B (gCons g gs) (js ++ ks) (d :: ds) Γ Γ2 := fun σ H vs r rv Q q => by
  cases rv with
  | cons ra rv =>
    refine ⟨_, _, rfl, h1 σ H _ r ra _ fun σ1 r1 w1 => h2 σ1 H _ r1 rv _ fun σ2 r2 w2 => q σ2 r2 fun ws hw => ?_⟩
    rw [w2 ws fun j hj => hw j (List.mem_append_right _ hj), w1 ws fun j hj => hw j (List.mem_append_left _ hj)]
theorem gg_tup {g : TGs} {js : List Nat} {ds : List D} {n : Nat} {Γ' : Gm} (h : GGs B g js ds Γ Γ') (hn : ds.length = n) : GG B (gTup B.K n g) js (.tup ds) Γ Γ' := fun σ H v r rv Q q => by
  obtain ⟨a, xs, rfl, hx, rx⟩ := rv.tup_inv
  exact ⟨a, xs, rfl, hx.sq, rx.length.trans hn, h σ H xs r rx Q q⟩
theorem gg_2 {i j : Nat} : GG B (gTup B.K 2 (gCons (gName i) (gCons (gName j) gNil))) ([i] ++ ([j] ++ [])) (.tup [d, e]) Γ ((Γ.set i (some d)).set j (some e)) := gg_tup (ggs_cons gg_name (ggs_cons gg_name ggs_nil)) rfl
/-! what is walked -/
/-- what was there and not being changed is still not being changed -/
def Ex (B : Bs) (H : Hp) (pp' : Addr → Prop) : Prop := ∀ a, ¬ B.pp a → H a ≠ none → ¬ pp' a
theorem Ex.refl (B : Bs) (H : Hp) : Ex B H B.pp := fun _ n _ => n
def WG (B : Bs) (wi : TI) (Γ : Gm) (ds : List D) : Prop := ∀ (σ : L2.St) (H : Hp), Rep B H σ Γ → ∀ Rq : It → Hp → Prop,
  (∀ (J : It) (H1 : Hp) (G : Hp → Prop) (Y : Nat → Hp → V → Hp → Prop), Same H H1 → Walk J ds.length G Y → (∀ (pp' : Addr → Prop) (H' : Hp), Ex B H1 pp' → Sm (B.at pp') H1 H' → G H') →
    (∀ (pp' : Addr → Prop) (i : Nat) (H' : Hp) (x : V) (H2 : Hp) (d : D), Ex B H1 pp' → Sm (B.at pp') H1 H' → ds[i]? = some d → Y i H' x H2 → Same H' H2 ∧ R (B.at pp') H2 x d) → Rq J H1) → wi σ H Rq
theorem some_ne {α : Type} {o : Option α} {x : α} (h : o = some x) : o ≠ none := fun z => by rw [h] at z; cases z
theorem wg_list {ds : List D} (h : EG B te Γ (.lst ds)) : WG B (iList B.K te) Γ ds := fun σ H r Rq q => h σ H r _ fun v H1 e1 r1 => by
  obtain ⟨a, xs, rfl, hx, rx⟩ := r1.lst_inv
  refine ⟨a, rfl, ⟨xs, SqL.of hx⟩, q _ H1 (fun H' => SqL B.K H' a xs) (YAt xs) e1 (by rw [← rx.length]; exact walk_list) (fun pp' H' ex s => SqL.of (s.off a _ (ex a r1.lst_off (some_ne hx)) hx)) fun pp' i H' x H2 d ex s hd y => ?_⟩
  obtain ⟨rfl, hy⟩ := y
  obtain ⟨v, hv, rv⟩ := rx.get hd
  rw [hy] at hv
  cases hv
  exact ⟨Same.refl _, (R.pp ex rv).sm s⟩
theorem wg_tup {ds : List D} (h : EG B te Γ (.tup ds)) : WG B (iTup B.K te) Γ ds := fun σ H r Rq q => h σ H r _ fun v H1 e1 r1 => by
  obtain ⟨a, xs, rfl, hx, rx⟩ := r1.tup_inv
  refine ⟨a, rfl, ⟨xs, hx.sq⟩, q _ H1 (fun H' => SqT B.K H' a xs) (YAt xs) e1 (by rw [← rx.length]; exact walk_tup) (fun pp' H' ex s => (s.pt hx).sq) fun pp' i H' x H2 d ex s hd y => ?_⟩
  obtain ⟨rfl, hy⟩ := y
  obtain ⟨v, hv, rv⟩ := rx.get hd
  rw [hy] at hv
  cases hv
  exact ⟨Same.refl _, (R.pp ex rv).sm s⟩
/-- lo, lo + 1, .. : n of them -/
def rng (lo : Int) (n : Nat) : List D := (List.range n).map fun (i : Nat) => D.int (lo + i)
theorem rng_length (lo : Int) (n : Nat) : (rng lo n).length = n := by simp [rng]
theorem rng_get {lo : Int} {n i : Nat} {d : D} (h : (rng lo n)[i]? = some d) : d = .int (lo + i) := by
  unfold rng at h
  rw [List.getElem?_map] at h
  by_cases hi : i < n
  · rw [List.getElem?_range hi] at h
    exact (Option.some.inj h).symm
  · rw [List.getElem?_eq_none (by simpa using hi)] at h
    cases h
theorem wg_range1 {tA : TA} {n : Int} (h : AG B tA Γ [.int n]) (h1 : -(2 ^ 62) ≤ n) (h2 : n < 2 ^ 62) : WG B (iRng1 tA) Γ (rng 0 n.toNat) := fun σ H r Rq q => h σ H r _ fun vs H1 e1 r1 => by
  obtain ⟨v, rfl, rv⟩ := r1.one
  obtain rfl := rv.int_inv
  refine ⟨n, rfl, h1, h2, q _ H1 (fun _ => True) _ e1 (by rw [rng_length]; exact walk_range) (fun _ _ _ _ => trivial) fun pp' i H' x H2 d ex s hd y => ?_⟩
  obtain ⟨rfl, rfl⟩ := y
  obtain rfl := rng_get hd
  exact ⟨Same.refl _, .int _⟩
theorem wg_range2 {tA : TA} {m n : Int} (h : AG B tA Γ [.int m, .int n]) (h1 : -(2 ^ 62) ≤ m) (h2 : m < 2 ^ 62) (h3 : -(2 ^ 62) ≤ n) (h4 : n < 2 ^ 62) : WG B (iRng2 tA) Γ (rng m (n - m).toNat) := fun σ H r Rq q => h σ H r _ fun vs H1 e1 r1 => by
  obtain ⟨v, v2, rfl, rv, rv2⟩ := r1.two
  obtain rfl := rv.int_inv
  obtain rfl := rv2.int_inv
  refine ⟨m, n, rfl, ⟨h1, h2, h3, h4⟩, q _ H1 (fun _ => True) _ e1 (by rw [rng_length]; exact walk_range) (fun _ _ _ _ => trivial) fun pp' i H' x H2 d ex s hd y => ?_⟩
  obtain ⟨rfl, rfl⟩ := y
  obtain rfl := rng_get hd
  exact ⟨Same.refl _, .int _⟩
/-- range(lo, hi, c) by its turns -/
def rngC (lo c : Int) (n : Nat) : List D := (List.range n).map fun (i : Nat) => D.int (lo + i * c)
theorem rngC_length (lo c : Int) (n : Nat) : (rngC lo c n).length = n := by simp [rngC]
theorem rngC_get {lo c : Int} {n i : Nat} {d : D} (h : (rngC lo c n)[i]? = some d) : d = .int (lo + i * c) := by
  unfold rngC at h
  rw [List.getElem?_map] at h
  by_cases hi : i < n
  · rw [List.getElem?_range hi] at h
    exact (Option.some.inj h).symm
  · rw [List.getElem?_eq_none (by simpa using hi)] at h
    cases h
theorem wg_range3 {tA : TA} {m n c : Int} {k : Nat} (h : AG B tA Γ [.int m, .int n, .int c]) (hc : RgC m n c k) : WG B (iRng3 tA) Γ (rngC m c k) := fun σ H r Rq q => h σ H r _ fun vs H1 e1 r1 => by
  cases r1 with
  | cons ra r1 =>
    obtain ⟨v, v2, rfl, rv, rv2⟩ := r1.two
    obtain rfl := ra.int_inv
    obtain rfl := rv.int_inv
    obtain rfl := rv2.int_inv
    refine ⟨m, n, c, k, rfl, hc, q _ H1 (fun _ => True) _ e1 (by rw [rngC_length]; exact walk_rangeC) (fun _ _ _ _ => trivial) fun pp' i H' x H2 d ex s hd y => ?_⟩
    obtain ⟨rfl, rfl⟩ := y
    obtain rfl := rngC_get hd
    exact ⟨Same.refl _, .int _⟩
/-! for -/
def loopO (k : Gm → Prop) (O : Out → Prop) : Out → Prop
  | .nx Γ => k Γ
  | .rt d => O (.rt d)
  | .bk Γ => O (.nx Γ)
  | .ct Γ => k Γ
theorem sg_for {wi : TI} {g : TG} {ds : List D} (hw : WG B wi Γ ds) (I : Nat → Gm → Prop) (h0 : I 0 Γ)
    (hs : ∀ (i : Nat) (d : D) (Γ' : Gm), ds[i]? = some d → I i Γ' → ∃ js Γ1, GG B g js d Γ' Γ1 ∧ SG B t Γ1 (loopO (I (i + 1)) O)) (hd : ∀ Γ', I ds.length Γ' → O (.nx Γ')) : SG B (tFor wi g t) Γ O := fun σ H E r n q b c =>
  hw σ H r _ fun J H1 G Y e1 w hG hY => for_it w (fun i σ' H' => ∃ Γ', Same H1 H' ∧ Rep B H' σ' Γ' ∧ I i Γ') ⟨Γ, Same.refl H1, r.ext e1, h0⟩ (fun i σ' H' hi ⟨Γ', s, r', hi'⟩ => hG B.pp H' (Ex.refl B H1) (.of s))
    (fun i x σ' H' H2 hi ⟨Γ', s, r', hi'⟩ y => by
      obtain ⟨d, hd'⟩ : ∃ d, ds[i]? = some d := ⟨ds[i], List.getElem?_eq_getElem hi⟩
      obtain ⟨s2, rx⟩ := hY B.pp i H' x H2 d (Ex.refl B H1) (.of s) hd' y
      obtain ⟨js, Γ1, hg, hb⟩ := hs i d Γ' hd' hi'
      refine hg σ' H2 x (r'.ext s2) rx _ fun σ2 r2 _ => ?_
      exact hb σ2 H2 _ r2 (fun σ3 H3 Γ3 s3 r3 o => ⟨Γ3, s.trans (s2.trans s3), r3, o⟩) (fun v H3 d s3 r3 o => q v H3 d (e1.trans (s.trans (s2.trans s3))) r3 o)
        (fun σ3 H3 Γ3 s3 r3 o => n σ3 H3 Γ3 (e1.trans (s.trans (s2.trans s3))) r3 o) (fun σ3 H3 Γ3 s3 r3 o => ⟨Γ3, s.trans (s2.trans s3), r3, o⟩))
    (fun σ' H' ⟨Γ', s, r', hi'⟩ => n σ' H' Γ' (e1.trans s) r' (hd Γ' hi'))
/-! while -/
theorem sg_while {tt : TT} (I : Nat → Gm → Prop) (m0 : Nat) (h0 : I m0 Γ)
    (hs : ∀ (m : Nat) (Γ' : Gm), I m Γ' → ∃ b, TGd B tt Γ' b ∧ (b = true → SG B t Γ' (loopO (fun Γ2 => ∃ m', m' < m ∧ I m' Γ2) O)) ∧ (b = false → O (.nx Γ'))) : SG B (tWhile tt t) Γ O := fun σ H E r n q b c => by
  refine ⟨fun m σ' H' => ∃ Γ', Same H H' ∧ Rep B H' σ' Γ' ∧ I m Γ', ⟨m0, Γ, Same.refl H, r, h0⟩, fun m σ' H' ⟨Γ', s, r', hi⟩ => ?_⟩
  obtain ⟨k, hk, h1, h2⟩ := hs m Γ' hi
  refine hk σ' H' r' _ fun H1 e1 => ?_
  cases k with
  | true =>
    refine ⟨fun σ2 H2 => ∃ m', m' < m ∧ ∃ Γ2, Same H H2 ∧ Rep B H2 σ2 Γ2 ∧ I m' Γ2, fun σ2 H2 h => h, ?_⟩
    exact h1 rfl σ' H1 _ (r'.ext e1) (fun σ3 H3 Γ3 s3 r3 ⟨m', hm, o⟩ => ⟨m', hm, Γ3, s.trans (e1.trans s3), r3, o⟩) (fun v H3 d s3 r3 o => q v H3 d (s.trans (e1.trans s3)) r3 o)
      (fun σ3 H3 Γ3 s3 r3 o => n σ3 H3 Γ3 (s.trans (e1.trans s3)) r3 o) (fun σ3 H3 Γ3 s3 r3 ⟨m', hm, o⟩ => ⟨m', hm, Γ3, s.trans (e1.trans s3), r3, o⟩)
  | false => exact n σ' H1 Γ' (s.trans e1) (r'.ext e1) (h2 rfl)
/-! what holds no list, no dict -/
end
mutual
def fz : D → Bool
  | .non => true
  | .bl _ => true
  | .int _ => true
  | .str _ => true
  | .tup ds => fzs ds
  | .raw _ => true
  | .lst _ => false
  | .dk _ => false
  | .dn _ => false
def fzs : List D → Bool
  | [] => true
  | d :: ds => fz d && fzs ds
end
section
variable {B : Bs} {H H' : Hp}
/-- the tuples stay -/
def Tk (B : Bs) (H H' : Hp) : Prop := ∀ b ys, PT B.K H b ys → PT B.K H' b ys
mutual
theorem R.frz (k : Tk B H H') : ∀ {v : V} {d : D}, R B H v d → fz d = true → R B H' v d
  | _, _, .non, _ => .non
  | _, _, .bl b, _ => .bl b
  | _, _, .int i, _ => .int i
  | _, _, .str x, _ => .str x
  | _, _, .tup h r, p => .tup (k _ _ h) (RA.frz k r (by rw [fz] at p; exact p))
  | _, _, .lst _ _ _, p => by rw [fz] at p; cases p
  | _, _, .dk _ _ _, p => by rw [fz] at p; cases p
  | _, _, .dn _ _ _, p => by rw [fz] at p; cases p
  | _, _, .raw v, _ => .raw v
theorem RA.frz (k : Tk B H H') : ∀ {vs : List V} {ds : List D}, RA B H vs ds → fzs ds = true → RA B H' vs ds
  | _, _, .nil, _ => .nil
  | _, _, .cons r t, p => by
    rw [fzs, Bool.and_eq_true] at p
    exact .cons (R.frz k r p.1) (RA.frz k t p.2)
end
theorem tk_same (e : Same H H') : Tk B H H' := fun b ys h => (Kp.of e).pt h
theorem tk_upd {p : Addr} {o u : HO} (h : H p = some u) (hf : ∀ ob v, u ≠ .frz ob v) : Tk B H (upd H p o) := fun b ys q => by
  rcases q with ⟨ob, q, q2⟩ | q
  · refine .inl ⟨ob, ?_, q2⟩
    rw [upd_ne (fun z => by rw [z, h] at q; exact hf _ _ (Option.some.inj q))]
    exact q
  · exact .inr q
theorem tk_lst {p : Addr} {o : HO} {xs : List V} (h : H p = some (.lst xs)) : Tk B H (upd H p o) := tk_upd h fun _ _ z => nomatch z
theorem same_mut {H H' : Hp} {p : Addr} {o : HO} (e : Same H H') (h : H p = none) : Same H (upd H' p o) := fun a u ha => by
  rw [upd_ne (ne_of_none ha h)]
  exact e a u ha
theorem fzs_mem : ∀ {ds : List D}, (∀ d ∈ ds, fz d = true) → fzs ds = true
  | [], _ => by rw [fzs]
  | d :: ds, h => by
    rw [fzs, h d List.mem_cons_self, fzs_mem fun e he => h e (List.mem_cons_of_mem _ he)]
    rfl
end
/-! list comprehensions -/
theorem wipe_idem {σ : L2.St} {vs : List Nat} : L2.wipe (L2.wipe σ vs) vs = L2.wipe σ vs := by
  have idem : ∀ (v : Nat) (us : List Nat), v ∈ us → (L2.wipe σ us).set v none = L2.wipe σ us := by
    intro v us
    induction us with
    | nil => intro z; cases z
    | cons u us ih2 =>
      intro hu
      show ((L2.wipe σ us).set u none).set v none = (L2.wipe σ us).set u none
      by_cases h : v = u
      · subst h
        rw [List.set_set]
      · rw [List.set_comm _ _ (Ne.symm h), ih2 ((List.mem_cons.mp hu).resolve_left h)]
  have ww : ∀ ws : List Nat, (∀ v ∈ ws, v ∈ vs) → L2.wipe (L2.wipe σ vs) ws = L2.wipe σ vs := by
    intro ws
    induction ws with
    | nil => intro _; rfl
    | cons v ws ih =>
      intro hv
      show (L2.wipe (L2.wipe σ vs) ws).set v none = L2.wipe σ vs
      rw [ih fun z hz => hv z (List.mem_cons_of_mem _ hz)]
      exact idem v vs (hv v List.mem_cons_self)
  exact ww vs fun _ h => h
section
variable {B : Bs} {Γ : Gm} {te : TE}
/-- elements without lists or dicts -/
theorem eg_lc {α : Type} {wi : TI} {g : TG} {tt : TT} {vs : List Nat} {xs : List α} {ee : α → D} {js : List Nat} (p : α → Bool) (fn : α → D) (hw : WG B wi Γ (xs.map ee)) (hj : ∀ j ∈ js, j ∈ vs) (hl : xs.length ≤ 100000)
    (hs : ∀ x ∈ xs, ∃ Γ1, GG B g js (ee x) (wipeG Γ vs) Γ1 ∧ TGd B tt Γ1 (p x) ∧ (p x = true → EG B te Γ1 (fn x) ∧ fz (fn x) = true)) : EG B (tLc wi g tt te vs) Γ (.lst ((xs.filter p).map fn)) := fun σ H r Q q =>
  hw σ H r _ fun J H1 G Y e1 w hG hY Dd hD => by
    rw [List.length_map] at w
    refine lc_it w (fun i H' => ∃ acc, H' Dd = some (.lst acc) ∧ Same H1 H' ∧ RA B H' acc (((xs.take i).filter p).map fn)) ⟨[], upd_same, same_new hD, by rw [List.take_zero]; exact .nil⟩ (fun i H' hi ⟨acc, h1, h2, h3⟩ => hG B.pp H' (Ex.refl B H1) (.of h2)) ?_ ?_
    · rintro i x H' H2 hi ⟨acc, h1, h2, h3⟩ y
      have hx : xs[i]? = some xs[i] := List.getElem?_eq_getElem hi
      have hd' : (xs.map ee)[i]? = some (ee xs[i]) := by rw [List.getElem?_map, hx]; rfl
      obtain ⟨s2, rx⟩ := hY B.pp i H' x H2 _ (Ex.refl B H1) (.of h2) hd' y
      obtain ⟨Γ1, hg, ht, he⟩ := hs xs[i] (List.getElem_mem hi)
      have r2 : Rep B H2 (L2.wipe σ vs) (wipeG Γ vs) := (r.ext (e1.trans (h2.trans s2))).wipe vs
      refine hg _ H2 x r2 rx _ fun σ2 r3 hw2 => ⟨(hw2 vs hj).trans wipe_idem, ht σ2 H2 r3 _ fun H3 e3 => ?_⟩
      have etake : (xs.take (i + 1)).filter p = (xs.take i).filter p ++ (if p xs[i] = true then [xs[i]] else []) := by
        rw [List.take_add_one, hx, List.filter_append]
        congr 1
        show List.filter p [xs[i]] = _
        by_cases hp : p xs[i] = true
        · rw [if_pos hp, List.filter_cons, if_pos hp]; rfl
        · rw [if_neg hp, List.filter_cons, if_neg hp]; rfl
      have hlen : acc.length < sizeLine := by
        have z1 := h3.length
        rw [List.length_map] at z1
        have z2 := List.length_filter_le p (xs.take i)
        have z3 : (xs.take i).length ≤ i := by rw [List.length_take]; omega
        rw [sizeLine_eq]
        omega
      cases hp : p xs[i] with
      | true =>
        obtain ⟨he1, he2⟩ := he hp
        refine he1 σ2 H3 (r3.ext e3) _ fun yv H4 e4 ry => ⟨acc, e4 _ _ (e3 _ _ (s2 _ _ h1)), hlen, acc ++ [yv], upd_same, same_mut (h2.trans (s2.trans (e3.trans e4))) hD, ?_⟩
        rw [etake, if_pos hp, List.map_append]
        have hD4 : H4 Dd = some (.lst acc) := e4 _ _ (e3 _ _ (s2 _ _ h1))
        refine RA.append ?_ (.cons (ry.frz (tk_lst hD4) he2) .nil)
        refine (h3.ext (s2.trans (e3.trans e4))).frz (tk_lst hD4) (fzs_mem fun d hd => ?_)
        obtain ⟨x', hx', rfl⟩ := List.mem_map.mp hd
        obtain ⟨hx1, hx2⟩ := List.mem_filter.mp hx'
        obtain ⟨_, _, _, he'⟩ := hs x' (List.mem_of_mem_take hx1)
        exact (he' hx2).2
      | false =>
        refine ⟨acc, e3 _ _ (s2 _ _ h1), h2.trans (s2.trans e3), ?_⟩
        rw [etake, if_neg (by rw [hp]; exact Bool.false_ne_true), List.append_nil]
        exact h3.ext (s2.trans e3)
    · rintro H' ⟨acc, h1, h2, h3⟩
      rw [List.take_length] at h3
      exact q _ H' (e1.trans h2) (.lst h1 ((r.ext e1).pp.new hD) h3)
/-- all of them -/
theorem eg_lcAll {α : Type} {wi : TI} {g : TG} {vs : List Nat} {xs : List α} {ee : α → D} {js : List Nat} (fn : α → D) (hw : WG B wi Γ (xs.map ee)) (hj : ∀ j ∈ js, j ∈ vs) (hl : xs.length ≤ 100000)
    (hs : ∀ x ∈ xs, ∃ Γ1, GG B g js (ee x) (wipeG Γ vs) Γ1 ∧ EG B te Γ1 (fn x) ∧ fz (fn x) = true) : EG B (tLc wi g tYes te vs) Γ (.lst (xs.map fn)) := by
  have h := eg_lc (B := B) (Γ := Γ) (te := te) (tt := tYes) (fun _ => true) fn hw hj hl fun x hx => by
    obtain ⟨Γ1, h1, h2⟩ := hs x hx
    exact ⟨Γ1, h1, fun σ H r Q q => q H (Same.refl H), fun _ => h2⟩
  rw [List.filter_eq_self.mpr fun _ _ => rfl] at h
  exact h
end
end Tl
end
section
set_option Elab.async false
set_option linter.all false
set_option maxRecDepth 100000
set_option maxHeartbeats 2000000
set_option autoImplicit false
/-! The text: where each def stands, its slots; what the top leaves of it. -/
namespace Tl
open PySem PySem.Spec PyProof.Rows L2
def topS (i : Nat) : Stmt := PySem.Challenge.pw_tosslanes_k93_whole_lookers.main.body.getD i (.Pass ⟨0, 0, 0, 0⟩)
abbrev s_is_integer : Stmt := topS 10
abbrev n_is_integer : List Str := ["value"]
abbrev p_is_integer : List Str := ["value"]
theorem sc_is_integer : FnScope n_is_integer p_is_integer (defScope s_is_integer) := ⟨rfl, rfl, rfl, by decide +kernel, rfl, by decide +kernel, by decide +kernel⟩

abbrev s_is_row : Stmt := topS 11
abbrev n_is_row : List Str := ["value"]
abbrev p_is_row : List Str := ["value"]
theorem sc_is_row : FnScope n_is_row p_is_row (defScope s_is_row) := ⟨rfl, rfl, rfl, by decide +kernel, rfl, by decide +kernel, by decide +kernel⟩

abbrev s_is_pair : Stmt := topS 12
abbrev n_is_pair : List Str := ["value"]
abbrev p_is_pair : List Str := ["value"]
theorem sc_is_pair : FnScope n_is_pair p_is_pair (defScope s_is_pair) := ⟨rfl, rfl, rfl, by decide +kernel, rfl, by decide +kernel, by decide +kernel⟩

abbrev s_wrong_at : Stmt := topS 13
abbrev n_wrong_at : List Str := ["thing", "index", "one"]
abbrev p_wrong_at : List Str := ["thing"]
theorem sc_wrong_at : FnScope n_wrong_at p_wrong_at (defScope s_wrong_at) := ⟨rfl, rfl, rfl, by decide +kernel, rfl, by decide +kernel, by decide +kernel⟩

abbrev s_checked : Stmt := topS 14
abbrev n_checked : List Str := ["towers", "index", "key", "height"]
abbrev p_checked : List Str := ["towers"]
theorem sc_checked : FnScope n_checked p_checked (defScope s_checked) := ⟨rfl, rfl, rfl, by decide +kernel, rfl, by decide +kernel, by decide +kernel⟩

abbrev s_look_key : Stmt := topS 15
abbrev n_look_key : List Str := ["key"]
abbrev p_look_key : List Str := ["key"]
theorem sc_look_key : FnScope n_look_key p_look_key (defScope s_look_key) := ⟨rfl, rfl, rfl, by decide +kernel, rfl, by decide +kernel, by decide +kernel⟩

abbrev s_look_from : Stmt := topS 16
abbrev n_look_from : List Str := ["value", "least", "most"]
abbrev p_look_from : List Str := ["value", "least", "most"]
theorem sc_look_from : FnScope n_look_from p_look_from (defScope s_look_from) := ⟨rfl, rfl, rfl, by decide +kernel, rfl, by decide +kernel, by decide +kernel⟩

abbrev s_highest : Stmt := topS 17
abbrev n_highest : List Str := ["known", "key", "height"]
abbrev p_highest : List Str := ["known"]
theorem sc_highest : FnScope n_highest p_highest (defScope s_highest) := ⟨rfl, rfl, rfl, by decide +kernel, rfl, by decide +kernel, by decide +kernel⟩

abbrev s_is_rule : Stmt := topS 21
abbrev n_is_rule : List Str := ["rule"]
abbrev p_is_rule : List Str := ["rule"]
theorem sc_is_rule : FnScope n_is_rule p_is_rule (defScope s_is_rule) := ⟨rfl, rfl, rfl, by decide +kernel, rfl, by decide +kernel, by decide +kernel⟩

abbrev s_look_rule : Stmt := topS 22
abbrev n_look_rule : List Str := ["rule"]
abbrev p_look_rule : List Str := ["rule"]
theorem sc_look_rule : FnScope n_look_rule p_look_rule (defScope s_look_rule) := ⟨rfl, rfl, rfl, by decide +kernel, rfl, by decide +kernel, by decide +kernel⟩

abbrev s_is_chance : Stmt := topS 23
abbrev n_is_chance : List Str := ["chance"]
abbrev p_is_chance : List Str := ["chance"]
theorem sc_is_chance : FnScope n_is_chance p_is_chance (defScope s_is_chance) := ⟨rfl, rfl, rfl, by decide +kernel, rfl, by decide +kernel, by decide +kernel⟩

abbrev s_look_chance : Stmt := topS 24
abbrev n_look_chance : List Str := ["chance"]
abbrev p_look_chance : List Str := ["chance"]
theorem sc_look_chance : FnScope n_look_chance p_look_chance (defScope s_look_chance) := ⟨rfl, rfl, rfl, by decide +kernel, rfl, by decide +kernel, by decide +kernel⟩

abbrev s_limit : Stmt := topS 25
abbrev n_limit : List Str := ["rule", "top"]
abbrev p_limit : List Str := ["rule", "top"]
theorem sc_limit : FnScope n_limit p_limit (defScope s_limit) := ⟨rfl, rfl, rfl, by decide +kernel, rfl, by decide +kernel, by decide +kernel⟩

abbrev s_look_manner : Stmt := topS 28
abbrev n_look_manner : List Str := ["manner"]
abbrev p_look_manner : List Str := ["manner"]
theorem sc_look_manner : FnScope n_look_manner p_look_manner (defScope s_look_manner) := ⟨rfl, rfl, rfl, by decide +kernel, rfl, by decide +kernel, by decide +kernel⟩

abbrev s_is_early : Stmt := topS 29
abbrev n_is_early : List Str := ["manner"]
abbrev p_is_early : List Str := ["manner"]
theorem sc_is_early : FnScope n_is_early p_is_early (defScope s_is_early) := ⟨rfl, rfl, rfl, by decide +kernel, rfl, by decide +kernel, by decide +kernel⟩

abbrev s_is_lean : Stmt := topS 30
abbrev n_is_lean : List Str := ["manner"]
abbrev p_is_lean : List Str := ["manner"]
theorem sc_is_lean : FnScope n_is_lean p_is_lean (defScope s_is_lean) := ⟨rfl, rfl, rfl, by decide +kernel, rfl, by decide +kernel, by decide +kernel⟩

abbrev s_next_place : Stmt := topS 31
abbrev n_next_place : List Str := ["known", "at", "level", "place"]
abbrev p_next_place : List Str := ["known", "at", "level"]
theorem sc_next_place : FnScope n_next_place p_next_place (defScope s_next_place) := ⟨rfl, rfl, rfl, by decide +kernel, rfl, by decide +kernel, by decide +kernel⟩

abbrev s_walked : Stmt := topS 32
abbrev n_walked : List Str := ["known", "key", "manner", "begin", "level", "at", "behind", "found", "place", "last"]
abbrev p_walked : List Str := ["known", "key", "manner", "begin"]
theorem sc_walked : FnScope n_walked p_walked (defScope s_walked) := ⟨rfl, rfl, rfl, by decide +kernel, rfl, by decide +kernel, by decide +kernel⟩

abbrev s_priced : Stmt := topS 33
abbrev n_priced : List Str := ["told", "begin", "words", "last", "compares", "step", "word"]
abbrev p_priced : List Str := ["told", "begin"]
theorem sc_priced : FnScope n_priced p_priced (defScope s_priced) := ⟨rfl, rfl, rfl, by decide +kernel, rfl, by decide +kernel, by decide +kernel⟩

abbrev s_cost_in : Stmt := topS 34
abbrev n_cost_in : List Str := ["known", "key", "manner"]
abbrev p_cost_in : List Str := ["known", "key", "manner"]
theorem sc_cost_in : FnScope n_cost_in p_cost_in (defScope s_cost_in) := ⟨rfl, rfl, rfl, by decide +kernel, rfl, by decide +kernel, by decide +kernel⟩

abbrev s_put_in : Stmt := topS 36
abbrev n_put_in : List Str := ["known", "key", "height"]
abbrev p_put_in : List Str := ["known", "key", "height"]
theorem sc_put_in : FnScope n_put_in p_put_in (defScope s_put_in) := ⟨rfl, rfl, rfl, by decide +kernel, rfl, by decide +kernel, by decide +kernel⟩

abbrev s_put_out : Stmt := topS 37
abbrev n_put_out : List Str := ["known", "key", "pair"]
abbrev p_put_out : List Str := ["known", "key"]
theorem sc_put_out : FnScope n_put_out p_put_out (defScope s_put_out) := ⟨rfl, rfl, rfl, by decide +kernel, rfl, by decide +kernel, by decide +kernel⟩

abbrev s_common : Stmt := topS 39
abbrev n_common : List Str := ["one", "other"]
abbrev p_common : List Str := ["one", "other"]
theorem sc_common : FnScope n_common p_common (defScope s_common) := ⟨rfl, rfl, rfl, by decide +kernel, rfl, by decide +kernel, by decide +kernel⟩

abbrev s_ratio : Stmt := topS 40
abbrev n_ratio : List Str := ["top", "below", "shared"]
abbrev p_ratio : List Str := ["top", "below"]
theorem sc_ratio : FnScope n_ratio p_ratio (defScope s_ratio) := ⟨rfl, rfl, rfl, by decide +kernel, rfl, by decide +kernel, by decide +kernel⟩

abbrev s_plus : Stmt := topS 41
abbrev n_plus : List Str := ["one", "other"]
abbrev p_plus : List Str := ["one", "other"]
theorem sc_plus : FnScope n_plus p_plus (defScope s_plus) := ⟨rfl, rfl, rfl, by decide +kernel, rfl, by decide +kernel, by decide +kernel⟩

abbrev s_minus : Stmt := topS 42
abbrev n_minus : List Str := ["one", "other"]
abbrev p_minus : List Str := ["one", "other"]
theorem sc_minus : FnScope n_minus p_minus (defScope s_minus) := ⟨rfl, rfl, rfl, by decide +kernel, rfl, by decide +kernel, by decide +kernel⟩

abbrev s_times : Stmt := topS 43
abbrev n_times : List Str := ["one", "other"]
abbrev p_times : List Str := ["one", "other"]
theorem sc_times : FnScope n_times p_times (defScope s_times) := ⟨rfl, rfl, rfl, by decide +kernel, rfl, by decide +kernel, by decide +kernel⟩

abbrev s_raised : Stmt := topS 44
abbrev n_raised : List Str := ["number", "many", "found"]
abbrev p_raised : List Str := ["number", "many"]
theorem sc_raised : FnScope n_raised p_raised (defScope s_raised) := ⟨rfl, rfl, rfl, by decide +kernel, rfl, by decide +kernel, by decide +kernel⟩

abbrev s_power : Stmt := topS 45
abbrev n_power : List Str := ["one", "many"]
abbrev p_power : List Str := ["one", "many"]
theorem sc_power : FnScope n_power p_power (defScope s_power) := ⟨rfl, rfl, rfl, by decide +kernel, rfl, by decide +kernel, by decide +kernel⟩

abbrev s_total : Stmt := topS 46
abbrev n_total : List Str := ["some", "below", "one"]
abbrev p_total : List Str := ["some"]
theorem sc_total : FnScope n_total p_total (defScope s_total) := ⟨rfl, rfl, rfl, by decide +kernel, rfl, by decide +kernel, by decide +kernel⟩

abbrev s_is_less : Stmt := topS 47
abbrev n_is_less : List Str := ["one", "other"]
abbrev p_is_less : List Str := ["one", "other"]
theorem sc_is_less : FnScope n_is_less p_is_less (defScope s_is_less) := ⟨rfl, rfl, rfl, by decide +kernel, rfl, by decide +kernel, by decide +kernel⟩

abbrev s_look_finite : Stmt := topS 52
abbrev n_look_finite : List Str := ["rule"]
abbrev p_look_finite : List Str := ["rule"]
theorem sc_look_finite : FnScope n_look_finite p_look_finite (defScope s_look_finite) := ⟨rfl, rfl, rfl, by decide +kernel, rfl, by decide +kernel, by decide +kernel⟩

abbrev s_look_unlike : Stmt := topS 53
abbrev n_look_unlike : List Str := ["keys", "there", "index", "key"]
abbrev p_look_unlike : List Str := ["keys"]
theorem sc_look_unlike : FnScope n_look_unlike p_look_unlike (defScope s_look_unlike) := ⟨rfl, rfl, rfl, by decide +kernel, rfl, by decide +kernel, by decide +kernel⟩

abbrev s_share_of : Stmt := topS 54
abbrev n_share_of : List Str := ["chance", "height", "end", "p"]
abbrev p_share_of : List Str := ["chance", "height", "end"]
theorem sc_share_of : FnScope n_share_of p_share_of (defScope s_share_of) := ⟨rfl, rfl, rfl, by decide +kernel, rfl, by decide +kernel, by decide +kernel⟩

abbrev s_fresh : Stmt := topS 55
abbrev n_fresh : List Str := ["known", "key", "chance", "rule", "end", "height"]
abbrev p_fresh : List Str := ["known", "key", "chance", "rule"]
theorem sc_fresh : FnScope n_fresh p_fresh (defScope s_fresh) := ⟨rfl, rfl, rfl, by decide +kernel, rfl, by decide +kernel, by decide +kernel⟩

abbrev s_after : Stmt := topS 57
abbrev n_after : List Str := ["known", "act", "chance", "rule", "word", "key", "rest", "is_there"]
abbrev p_after : List Str := ["known", "act", "chance", "rule"]
theorem sc_after : FnScope n_after p_after (defScope s_after) := ⟨rfl, rfl, rfl, by decide +kernel, rfl, by decide +kernel, by decide +kernel⟩

abbrev s_behind_act : Stmt := topS 59
abbrev n_behind_act : List Str := ["states", "act", "chance", "rule", "yes", "no", "found", "known", "part", "later", "share"]
abbrev p_behind_act : List Str := ["states", "act", "chance", "rule"]
theorem sc_behind_act : FnScope n_behind_act p_behind_act (defScope s_behind_act) := ⟨rfl, rfl, rfl, by decide +kernel, rfl, by decide +kernel, by decide +kernel⟩

abbrev s_led : Stmt := topS 60
abbrev n_led : List Str := ["states", "plan", "chance", "rule", "act"]
abbrev p_led : List Str := ["states", "plan", "chance", "rule"]
theorem sc_led : FnScope n_led p_led (defScope s_led) := ⟨rfl, rfl, rfl, by decide +kernel, rfl, by decide +kernel, by decide +kernel⟩

abbrev s_mean_of : Stmt := topS 61
abbrev n_mean_of : List Str := ["states", "key", "manner", "known", "part"]
abbrev p_mean_of : List Str := ["states", "key", "manner"]
theorem sc_mean_of : FnScope n_mean_of p_mean_of (defScope s_mean_of) := ⟨rfl, rfl, rfl, by decide +kernel, rfl, by decide +kernel, by decide +kernel⟩

abbrev s_Looker_init : Stmt := inClass (topS 62) 0
abbrev n_Looker_init : List Str := ["self", "keys", "goal", "manner", "chance", "rule"]
abbrev p_Looker_init : List Str := ["self", "keys", "goal", "manner", "chance", "rule"]
theorem sc_Looker_init : FnScope n_Looker_init p_Looker_init (defScope s_Looker_init) := ⟨rfl, rfl, rfl, by decide +kernel, rfl, by decide +kernel, by decide +kernel⟩

abbrev s_Looker_deeds_in : Stmt := inClass (topS 62) 1
abbrev n_Looker_deeds_in : List Str := ["self", "known", "there", "found", "key"]
abbrev p_Looker_deeds_in : List Str := ["self", "known"]
theorem sc_Looker_deeds_in : FnScope n_Looker_deeds_in p_Looker_deeds_in (defScope s_Looker_deeds_in) := ⟨rfl, rfl, rfl, by decide +kernel, rfl, by decide +kernel, by decide +kernel⟩

abbrev s_Looker_best : Stmt := inClass (topS 62) 2
abbrev n_Looker_best : List Str := ["self", "known", "many", "value", "first", "deed", "some", "mean", "later", "share"]
abbrev p_Looker_best : List Str := ["self", "known", "many"]
theorem sc_Looker_best : FnScope n_Looker_best p_Looker_best (defScope s_Looker_best) := ⟨rfl, rfl, rfl, by decide +kernel, rfl, by decide +kernel, by decide +kernel⟩

abbrev s_looker : Stmt := topS 63
abbrev n_looker : List Str := ["towers", "keys", "many", "key", "manner", "chance", "rule", "known"]
abbrev p_looker : List Str := ["towers", "keys", "many", "key", "manner", "chance", "rule"]
theorem sc_looker : FnScope n_looker p_looker (defScope s_looker) := ⟨rfl, rfl, rfl, by decide +kernel, rfl, by decide +kernel, by decide +kernel⟩

abbrev s_choices : Stmt := topS 64
abbrev n_choices : List Str := ["known", "keys", "many", "found", "key", "there", "ways_so", "some", "way"]
abbrev p_choices : List Str := ["known", "keys", "many"]
theorem sc_choices : FnScope n_choices p_choices (defScope s_choices) := ⟨rfl, rfl, rfl, by decide +kernel, rfl, by decide +kernel, by decide +kernel⟩

abbrev s_blind_looker : Stmt := topS 65
abbrev n_blind_looker : List Str := ["towers", "keys", "many", "key", "manner", "chance", "cap", "known", "best", "some", "mean"]
abbrev p_blind_looker : List Str := ["towers", "keys", "many", "key", "manner", "chance", "cap"]
theorem sc_blind_looker : FnScope n_blind_looker p_blind_looker (defScope s_blind_looker) := ⟨rfl, rfl, rfl, by decide +kernel, rfl, by decide +kernel, by decide +kernel⟩

abbrev s_law_purse : Stmt := topS 67
abbrev n_law_purse : List Str := ["_law_cell"]
abbrev p_law_purse : List Str := ["_law_cell"]
theorem sc_law_purse : FnScope n_law_purse p_law_purse (defScope s_law_purse) := ⟨rfl, rfl, rfl, by decide +kernel, rfl, by decide +kernel, by decide +kernel⟩

abbrev s_law_coin : Stmt := topS 68
abbrev n_law_coin : List Str := ["_law_purse_here", "_law_many", "_law_drawn", "_law_hashed"]
abbrev p_law_coin : List Str := ["_law_purse_here", "_law_many"]
theorem sc_law_coin : FnScope n_law_coin p_law_coin (defScope s_law_coin) := ⟨rfl, rfl, rfl, by decide +kernel, rfl, by decide +kernel, by decide +kernel⟩

abbrev s_law_pick : Stmt := topS 69
abbrev n_law_pick : List Str := ["_law_purse_here", "_law_some"]
abbrev p_law_pick : List Str := ["_law_purse_here", "_law_some"]
theorem sc_law_pick : FnScope n_law_pick p_law_pick (defScope s_law_pick) := ⟨rfl, rfl, rfl, by decide +kernel, rfl, by decide +kernel, by decide +kernel⟩

abbrev s_law_common : Stmt := topS 70
abbrev n_law_common : List Str := ["_law_left_so", "_law_right_so"]
abbrev p_law_common : List Str := ["_law_left_so", "_law_right_so"]
theorem sc_law_common : FnScope n_law_common p_law_common (defScope s_law_common) := ⟨rfl, rfl, rfl, by decide +kernel, rfl, by decide +kernel, by decide +kernel⟩

abbrev s_law_frac : Stmt := topS 71
abbrev n_law_frac : List Str := ["_law_above", "_law_below", "_law_shared"]
abbrev p_law_frac : List Str := ["_law_above", "_law_below"]
theorem sc_law_frac : FnScope n_law_frac p_law_frac (defScope s_law_frac) := ⟨rfl, rfl, rfl, by decide +kernel, rfl, by decide +kernel, by decide +kernel⟩

abbrev s_law_sum : Stmt := topS 72
abbrev n_law_sum : List Str := ["_law_some", "_law_above", "_law_below", "_law_one_so", "_law_two_so"]
abbrev p_law_sum : List Str := ["_law_some"]
theorem sc_law_sum : FnScope n_law_sum p_law_sum (defScope s_law_sum) := ⟨rfl, rfl, rfl, by decide +kernel, rfl, by decide +kernel, by decide +kernel⟩

abbrev s_law_product : Stmt := topS 73
abbrev n_law_product : List Str := ["_law_first", "_law_second"]
abbrev p_law_product : List Str := ["_law_first", "_law_second"]
theorem sc_law_product : FnScope n_law_product p_law_product (defScope s_law_product) := ⟨rfl, rfl, rfl, by decide +kernel, rfl, by decide +kernel, by decide +kernel⟩

abbrev s_law_odds : Stmt := topS 74
abbrev n_law_odds : List Str := ["_law_purse_here"]
abbrev p_law_odds : List Str := ["_law_purse_here"]
theorem sc_law_odds : FnScope n_law_odds p_law_odds (defScope s_law_odds) := ⟨rfl, rfl, rfl, by decide +kernel, rfl, by decide +kernel, by decide +kernel⟩

abbrev s_law_compares : Stmt := topS 75
abbrev n_law_compares : List Str := ["_law_known", "_law_goal", "_law_style", "_law_found", "_law_at", "_law_met", "_law_lane_so", "_law_turn", "_law_spots", "_law_name", "_law_height", "_law_spot"]
abbrev p_law_compares : List Str := ["_law_known", "_law_goal", "_law_style"]
theorem sc_law_compares : FnScope n_law_compares p_law_compares (defScope s_law_compares) := ⟨rfl, rfl, rfl, by decide +kernel, rfl, by decide +kernel, by decide +kernel⟩

abbrev s_law_end : Stmt := topS 76
abbrev n_law_end : List Str := ["_law_norm", "_law_known", "_law_peak", "_law_name", "_law_height"]
abbrev p_law_end : List Str := ["_law_norm", "_law_known"]
theorem sc_law_end : FnScope n_law_end p_law_end (defScope s_law_end) := ⟨rfl, rfl, rfl, by decide +kernel, rfl, by decide +kernel, by decide +kernel⟩

abbrev s_law_grown : Stmt := topS 77
abbrev n_law_grown : List Str := ["_law_odds_here", "_law_end_here", "_law_found", "_law_part", "_law_height"]
abbrev p_law_grown : List Str := ["_law_odds_here", "_law_end_here"]
theorem sc_law_grown : FnScope n_law_grown p_law_grown (defScope s_law_grown) := ⟨rfl, rfl, rfl, by decide +kernel, rfl, by decide +kernel, by decide +kernel⟩

abbrev s_law_put : Stmt := topS 78
abbrev n_law_put : List Str := ["_law_known", "_law_name", "_law_odds_here", "_law_norm", "_law_end_here", "_law_height", "_law_part"]
abbrev p_law_put : List Str := ["_law_known", "_law_name", "_law_odds_here", "_law_norm"]
theorem sc_law_put : FnScope n_law_put p_law_put (defScope s_law_put) := ⟨rfl, rfl, rfl, by decide +kernel, rfl, by decide +kernel, by decide +kernel⟩

abbrev s_law_gone : Stmt := topS 79
abbrev n_law_gone : List Str := ["_law_known", "_law_name", "_law_pair"]
abbrev p_law_gone : List Str := ["_law_known", "_law_name"]
theorem sc_law_gone : FnScope n_law_gone p_law_gone (defScope s_law_gone) := ⟨rfl, rfl, rfl, by decide +kernel, rfl, by decide +kernel, by decide +kernel⟩

abbrev s_law_less : Stmt := topS 80
abbrev n_law_less : List Str := ["_law_first", "_law_second"]
abbrev p_law_less : List Str := ["_law_first", "_law_second"]
theorem sc_law_less : FnScope n_law_less p_law_less (defScope s_law_less) := ⟨rfl, rfl, rfl, by decide +kernel, rfl, by decide +kernel, by decide +kernel⟩

abbrev s_law_mean : Stmt := topS 81
abbrev n_law_mean : List Str := ["_law_some", "_law_goal", "_law_style", "_law_known", "_law_part"]
abbrev p_law_mean : List Str := ["_law_some", "_law_goal", "_law_style"]
theorem sc_law_mean : FnScope n_law_mean p_law_mean (defScope s_law_mean) := ⟨rfl, rfl, rfl, by decide +kernel, rfl, by decide +kernel, by decide +kernel⟩

abbrev s_law_value : Stmt := topS 82
abbrev n_law_value : List Str := ["_law_known", "_law_own", "_law_size", "_law_goal", "_law_style", "_law_odds_here", "_law_norm", "_law_peak", "_law_first", "_law_deeds_so", "_law_word", "_law_name", "_law_some", "_law_values_so", "_law_later", "_law_part", "_law_mean_here"]
abbrev p_law_value : List Str := ["_law_known", "_law_own", "_law_size", "_law_goal", "_law_style", "_law_odds_here", "_law_norm"]
theorem sc_law_value : FnScope n_law_value p_law_value (defScope s_law_value) := ⟨rfl, rfl, rfl, by decide +kernel, rfl, by decide +kernel, by decide +kernel⟩

abbrev s_law_led : Stmt := topS 83
abbrev n_law_led : List Str := ["_law_some", "_law_history_so", "_law_odds_here", "_law_norm", "_law_word", "_law_name", "_law_later", "_law_known", "_law_part", "_law_more_so", "_law_last", "_law_share"]
abbrev p_law_led : List Str := ["_law_some", "_law_history_so", "_law_odds_here", "_law_norm"]
theorem sc_law_led : FnScope n_law_led p_law_led (defScope s_law_led) := ⟨rfl, rfl, rfl, by decide +kernel, rfl, by decide +kernel, by decide +kernel⟩

abbrev s_law_blind : Stmt := topS 84
abbrev n_law_blind : List Str := ["_law_known", "_law_own", "_law_size", "_law_goal", "_law_style", "_law_odds_here", "_law_norm", "_law_plans_so", "_law_peak", "_law_name", "_law_gone_here", "_law_put_so", "_law_kinds_so", "_law_wider", "_law_some", "_law_mean_here", "_law_one_so"]
abbrev p_law_blind : List Str := ["_law_known", "_law_own", "_law_size", "_law_goal", "_law_style", "_law_odds_here", "_law_norm"]
theorem sc_law_blind : FnScope n_law_blind p_law_blind (defScope s_law_blind) := ⟨rfl, rfl, rfl, by decide +kernel, rfl, by decide +kernel, by decide +kernel⟩

abbrev s_law_right : Stmt := topS 85
abbrev n_law_right : List Str := ["_law_purse_here", "_law_cap_so", "_law_known", "_law_own", "_law_goal", "_law_style", "_law_odds_here", "_law_size", "_law_norm", "_law_due", "_law_seer", "_law_mean_here", "_law_told_so", "_law_name"]
abbrev p_law_right : List Str := ["_law_purse_here"]
theorem sc_law_right : FnScope n_law_right p_law_right (defScope s_law_right) := ⟨rfl, rfl, rfl, by decide +kernel, rfl, by decide +kernel, by decide +kernel⟩

abbrev s_law_beyond_right : Stmt := topS 86
abbrev n_law_beyond_right : List Str := ["_law_purse_here", "_law_norm", "_law_known", "_law_own", "_law_size", "_law_goal", "_law_style", "_law_odds_here", "_law_due", "_law_name"]
abbrev p_law_beyond_right : List Str := ["_law_purse_here"]
theorem sc_law_beyond_right : FnScope n_law_beyond_right p_law_beyond_right (defScope s_law_beyond_right) := ⟨rfl, rfl, rfl, by decide +kernel, rfl, by decide +kernel, by decide +kernel⟩

abbrev s_law_long_right : Stmt := topS 87
abbrev n_law_long_right : List Str := ["_law_purse_here", "_law_odds_here", "_law_style", "_law_size", "_law_known", "_law_due"]
abbrev p_law_long_right : List Str := ["_law_purse_here"]
theorem sc_law_long_right : FnScope n_law_long_right p_law_long_right (defScope s_law_long_right) := ⟨rfl, rfl, rfl, by decide +kernel, rfl, by decide +kernel, by decide +kernel⟩

abbrev s_law : Stmt := topS 88
abbrev n_law : List Str := ["_law_script", "_law_cell", "_law_purse_here", "_law_turn", "_law_known", "_law_own", "_law_size", "_law_mean_here", "_law_told_so", "_law_found"]
abbrev p_law : List Str := ["_law_script"]
theorem sc_law : FnScope n_law p_law (defScope s_law) := ⟨rfl, rfl, rfl, by decide +kernel, rfl, by decide +kernel, by decide +kernel⟩

/-- a def as it stands behind the top, whatever its defaults -/
structure FunG (K : PySem.W.Frag) (x qual : Str) (st : Stmt) (f : Addr) (fd : FuncData) : Prop where
  ex : ∃ (oc : Value) (od : Option Addr) (dV kV doc pm : Value) (an : Option Addr) (cdv ct : Value) (osl : Array (Option Value)),
    fd = PySem.W.fnOf x qual (defArgs st) (defBody st) (defScope st) dV kV doc pm an cdv ct ∧ K.lookup f = some ⟨oc, od, .func fd, osl⟩ ∧ PySem.W.codeIn K cdv qual = true
  kp : PySem.W.keepIn K (.ref f) = true
structure DefAt (K : PySem.W.Frag) (mg : Str → Option Value) (x : Str) (st : Stmt) (ps : List Str) where
  f : Addr
  d : FuncData
  F : FunG K x x st f d
  g : mg x = some (.ref f)
  b : Binds K d ps []
structure MethAt (K : PySem.W.Frag) (C : Addr) (m qual : Str) (st : Stmt) (ps : List Str) where
  f : Addr
  d : FuncData
  F : FunG K m qual st f d
  m : Meth K C m f
  b : Binds K d ps []
structure ConAt (mg : Str → Option Value) (x : Str) (v : V) where
  u : Value
  g : mg x = some u
  r : RelV v u
structure TupAt (K : PySem.W.Frag) (mg : Str → Option Value) (x : Str) (vs : List V) where
  a : Addr
  g : mg x = some (.ref a)
  t : ∀ H, PT K H a vs
/-- all that is used of what the top leaves -/
structure Txt (K : PySem.W.Frag) (mg : Str → Option Value) where
  is_integer : DefAt K mg "is_integer" s_is_integer p_is_integer
  is_row : DefAt K mg "is_row" s_is_row p_is_row
  is_pair : DefAt K mg "is_pair" s_is_pair p_is_pair
  wrong_at : DefAt K mg "wrong_at" s_wrong_at p_wrong_at
  checked : DefAt K mg "checked" s_checked p_checked
  look_key : DefAt K mg "look_key" s_look_key p_look_key
  look_from : DefAt K mg "look_from" s_look_from p_look_from
  highest : DefAt K mg "highest" s_highest p_highest
  is_rule : DefAt K mg "is_rule" s_is_rule p_is_rule
  look_rule : DefAt K mg "look_rule" s_look_rule p_look_rule
  is_chance : DefAt K mg "is_chance" s_is_chance p_is_chance
  look_chance : DefAt K mg "look_chance" s_look_chance p_look_chance
  limit : DefAt K mg "limit" s_limit p_limit
  look_manner : DefAt K mg "look_manner" s_look_manner p_look_manner
  is_early : DefAt K mg "is_early" s_is_early p_is_early
  is_lean : DefAt K mg "is_lean" s_is_lean p_is_lean
  next_place : DefAt K mg "next_place" s_next_place p_next_place
  walked : DefAt K mg "walked" s_walked p_walked
  priced : DefAt K mg "priced" s_priced p_priced
  cost_in : DefAt K mg "cost_in" s_cost_in p_cost_in
  put_in : DefAt K mg "put_in" s_put_in p_put_in
  put_out : DefAt K mg "put_out" s_put_out p_put_out
  common : DefAt K mg "common" s_common p_common
  ratio : DefAt K mg "ratio" s_ratio p_ratio
  plus : DefAt K mg "plus" s_plus p_plus
  minus : DefAt K mg "minus" s_minus p_minus
  times : DefAt K mg "times" s_times p_times
  raised : DefAt K mg "raised" s_raised p_raised
  power : DefAt K mg "power" s_power p_power
  total : DefAt K mg "total" s_total p_total
  is_less : DefAt K mg "is_less" s_is_less p_is_less
  look_finite : DefAt K mg "look_finite" s_look_finite p_look_finite
  look_unlike : DefAt K mg "look_unlike" s_look_unlike p_look_unlike
  share_of : DefAt K mg "share_of" s_share_of p_share_of
  fresh : DefAt K mg "fresh" s_fresh p_fresh
  after : DefAt K mg "after" s_after p_after
  behind_act : DefAt K mg "behind_act" s_behind_act p_behind_act
  led : DefAt K mg "led" s_led p_led
  mean_of : DefAt K mg "mean_of" s_mean_of p_mean_of
  looker : DefAt K mg "looker" s_looker p_looker
  choices : DefAt K mg "choices" s_choices p_choices
  blind_looker : DefAt K mg "blind_looker" s_blind_looker p_blind_looker
  law_purse : DefAt K mg "_law_purse" s_law_purse p_law_purse
  law_coin : DefAt K mg "_law_coin" s_law_coin p_law_coin
  law_pick : DefAt K mg "_law_pick" s_law_pick p_law_pick
  law_common : DefAt K mg "_law_common" s_law_common p_law_common
  law_frac : DefAt K mg "_law_frac" s_law_frac p_law_frac
  law_sum : DefAt K mg "_law_sum" s_law_sum p_law_sum
  law_product : DefAt K mg "_law_product" s_law_product p_law_product
  law_odds : DefAt K mg "_law_odds" s_law_odds p_law_odds
  law_compares : DefAt K mg "_law_compares" s_law_compares p_law_compares
  law_end : DefAt K mg "_law_end" s_law_end p_law_end
  law_grown : DefAt K mg "_law_grown" s_law_grown p_law_grown
  law_put : DefAt K mg "_law_put" s_law_put p_law_put
  law_gone : DefAt K mg "_law_gone" s_law_gone p_law_gone
  law_less : DefAt K mg "_law_less" s_law_less p_law_less
  law_mean : DefAt K mg "_law_mean" s_law_mean p_law_mean
  law_value : DefAt K mg "_law_value" s_law_value p_law_value
  law_led : DefAt K mg "_law_led" s_law_led p_law_led
  law_blind : DefAt K mg "_law_blind" s_law_blind p_law_blind
  law_right : DefAt K mg "_law_right" s_law_right p_law_right
  law_beyond_right : DefAt K mg "_law_beyond_right" s_law_beyond_right p_law_beyond_right
  law_long_right : DefAt K mg "_law_long_right" s_law_long_right p_law_long_right
  law : DefAt K mg "law" s_law p_law
  C : Addr
  g_Looker : mg "Looker" = some (.ref C)
  cl_Looker : Cls K C
  mk_Looker : PySem.W.makesIn K C = true
  kp_Looker : PySem.W.keepIn K (.ref C) = true
  Looker_init : MethAt K C "__init__" "Looker.__init__" s_Looker_init p_Looker_init
  Looker_deeds_in : MethAt K C "deeds_in" "Looker.deeds_in" s_Looker_deeds_in p_Looker_deeds_in
  Looker_best : MethAt K C "best" "Looker.best" s_Looker_best p_Looker_best
  n_own : NoAttr K C "own"
  n_goal : NoAttr K C "goal"
  n_manner : NoAttr K C "manner"
  n_chance : NoAttr K C "chance"
  n_rule : NoAttr K C "rule"
  n_memo : NoAttr K C "memo"
  c_MOST_CAP_coins : ConAt mg "MOST_CAP_coins" (.int 64)
  c_MOST_BELOW : ConAt mg "MOST_BELOW" (.int 1000)
  c_MOST_TOWERS : ConAt mg "MOST_TOWERS" (.int 5000)
  c_MOST_DEEDS : ConAt mg "MOST_DEEDS" (.int 8)
  c_MOST_CAP_plans : ConAt mg "MOST_CAP_plans" (.int 3)
  c_MANNERS : TupAt K mg "MANNERS" [.str "plain", .str "lean", .str "early", .str "sharp"]
  m_len : mg "len" = none
  m_abs : mg "abs" = none
  m_min : mg "min" = none
  m_max : mg "max" = none
  m_sum : mg "sum" = none
  m_sorted : mg "sorted" = none
  m_isinstance : mg "isinstance" = none
  m_enumerate : mg "enumerate" = none
  m_int : mg "int" = none
  m_bool : mg "bool" = none
  m_str : mg "str" = none
  m_list : mg "list" = none
  m_tuple : mg "tuple" = none
  m_dict : mg "dict" = none
  m_range : mg "range" = none
end Tl
end
section
set_option Elab.async false
set_option linter.all false
set_option maxRecDepth 100000
set_option maxHeartbeats 2000000
set_option autoImplicit false
/-! Defs by their data; built-in calls over data. -/
namespace Tl
open PySem PySem.Spec PyProof.Rows L2
def startG (N : List Str) (ds : List D) : Gm := ds.map some ++ List.replicate (N.length - ds.length) none
section
variable {B : Bs} {mg : Str → Option Value} {base : Heap}
theorem rep_start {H : Hp} {N : List Str} {vs : List V} {ds : List D} (pq : Pp B H) (r : RA B H vs ds) : Rep B H (L2.start N vs) (startG N ds) := by
  unfold L2.start startG
  refine ⟨pq, by simp only [List.length_append, List.length_map, List.length_replicate]; rw [r.length], fun i d h => ?_⟩
  by_cases hi : i < ds.length
  · rw [List.getElem?_append_left (by simpa using hi), List.getElem?_map] at h
    cases e : ds[i]? with
    | none => rw [e] at h; cases h
    | some d' =>
      rw [e] at h
      cases h
      obtain ⟨v, hv, rv⟩ := r.get e
      refine ⟨v, ?_, rv⟩
      rw [List.getElem?_append_left (by rw [List.length_map, r.length]; exact hi), List.getElem?_map, hv]
      rfl
  · rw [List.getElem?_append_right (by simpa using hi), List.getElem?_replicate] at h
    split at h <;> cases h
/-- a def's body, whatever it does -/
theorem FunG.ok {x qual : Str} {st : Stmt} {f : Addr} {fd : FuncData} {N ps : List Str} {k : Nat} {sp : Sp} (F : FunG B.K x qual st f fd) (Sc : FnScope N ps (defScope st)) (len : ∀ vs H Q E, sp vs H Q E → vs.length = ps.length)
    (hbody : ∀ (cdv : Value) (A : Around) (outer : List Env) (s : Shared) (H : Hp) (vs : List V) (Q : VK) (E : XK), Room k (A.deeper (envOfC qual (defScope st) s.heap.objs.size f cdv)) → sp vs H Q E →
      ∃ t, PSs (cxOf CX0 B.P B.w B.K mg base N qual (defScope st) f cdv A outer s H E).nox (defBody st) t ∧ t { nx := fun _ H' => Q .non H', rt := Q } (L2.start N vs) H) : FnOk B.P B.w B.K mg base CX0 (k + 1) f fd ps sp := by
  obtain ⟨oc, od, dV, kV, doc, pm, an, cdv, ct, osl, rfl, lk, hcd⟩ := F.ex
  refine fn_of lk hcd Sc len fun A outer s H vs Q E hr hsp => ?_
  obtain ⟨t, h, q⟩ := hbody cdv A outer s H vs Q E hr hsp
  exact ⟨t, h.nox, q⟩
/-- a def that leaves all as it was, by what its body comes to over data -/
theorem fn_pure {x qual : Str} {st : Stmt} {f : Addr} {fd : FuncData} {N ps : List Str} {k : Nat} {S : List D → D → Prop} (F : FunG B.K x qual st f fd) (Sc : FnScope N ps (defScope st)) (len : ∀ ds e, S ds e → ds.length = ps.length)
    (h : ∀ (pp : Addr → Prop) (cdv : Value) (A : Around) (outer : List Env) (s : Shared) (H : Hp) (E : XK) (ds : List D) (e : D), Room k (A.deeper (envOfC qual (defScope st) s.heap.objs.size f cdv)) → S ds e →
      ∃ t, PSs (cxOf CX0 B.P B.w B.K mg base N qual (defScope st) f cdv A outer s H E).nox (defBody st) t ∧ SG (B.at pp) t (startG N ds) (Rt e)) : FnOk B.P B.w B.K mg base CX0 (k + 1) f fd ps (PSp B.P B.w B.K S) := by
  refine F.ok Sc (fun vs H Q E hs => ?_) fun cdv A outer s H vs Q E hr hs => ?_
  · obtain ⟨pp, ds, d, _, r, hS, _⟩ := hs
    rw [r.length]
    exact len ds d hS
  · obtain ⟨pp, ds, d, pq, r, hS, q⟩ := hs
    obtain ⟨t, ht, hg⟩ := h pp cdv A outer s H E ds d hr hS
    refine ⟨t, ht, hg _ H _ (rep_start pq r) (fun σ' H' Γ' e r' o => ?_) (fun v H' d' e r' o => ?_) (fun _ _ _ _ _ o => o.elim) (fun _ _ _ _ _ o => o.elim)⟩
    · have o' : d = .non := o
      subst o'
      exact q .non H' e .non
    · have o' : d' = d := o
      subst o'
      exact q v H' e r'
end
def rLenS (K : PySem.W.Frag) : List V → Hp → VK → Prop := fun xs H Q => ∃ p ys, xs = [.ref p] ∧ (SqL K H p ys ∨ SqT K H p ys) ∧ Q (.int ys.length) H
def rLstS (K : PySem.W.Frag) : List V → Hp → VK → Prop := fun xs H Q => ∃ p ys, xs = [.ref p] ∧ (SqL K H p ys ∨ SqT K H p ys) ∧ ∀ l, H l = none → Q (.ref l) (upd H l (.lst ys))
section
variable {B : Bs} {Γ : Gm} {ta tb te : TE} {d e f : D}
theorem le1000 {n : Nat} (h : Nat.ble n 1000 = true) : n ≤ 1000 := Nat.le_of_ble_eq_true h
theorem sg_ctx {t : TS} {O : Out → Prop} (Γ' : Gm) (h : Γ = Γ') (h2 : SG B t Γ' O) : SG B t Γ O := h ▸ h2
/-! built-in calls -/
theorem cg_abs {i : Int} : CG B (fun xs H Q => ∃ i, xs = [.int i] ∧ Q (.int (if i < 0 then -i else i)) H) [.int i] (.int (i.natAbs : Int)) := fun H xs pq r Q q => by
  obtain ⟨v, rfl, rv⟩ := r.one
  obtain rfl := rv.int_inv
  refine ⟨i, rfl, ?_⟩
  have e : (if i < 0 then -i else i) = (i.natAbs : Int) := by split <;> omega
  rw [e]
  exact q _ H (Same.refl H) (.int _)
theorem cg_lenT {ds : List D} : CG B (rLenS B.K) [.tup ds] (.int (ds.length : Int)) := fun H xs pq r Q q => by
  obtain ⟨v, rfl, rv⟩ := r.one
  obtain ⟨a, ys, rfl, hy, ry⟩ := rv.tup_inv
  refine ⟨a, ys, rfl, .inr hy.sq, ?_⟩
  rw [ry.length]
  exact q _ H (Same.refl H) (.int _)
theorem cg_lenL {ds : List D} : CG B (rLenS B.K) [.lst ds] (.int (ds.length : Int)) := fun H xs pq r Q q => by
  obtain ⟨v, rfl, rv⟩ := r.one
  obtain ⟨a, ys, rfl, hy, ry⟩ := rv.lst_inv
  refine ⟨a, ys, rfl, .inl (SqL.of hy), ?_⟩
  rw [ry.length]
  exact q _ H (Same.refl H) (.int _)
theorem cg_int {i : Int} : CG B (fun xs H Q => (∃ i, xs = [.int i] ∧ Q (.int i) H) ∨ ∃ k, xs = [.bl k] ∧ Q (.int (if k then 1 else 0)) H) [.int i] (.int i) := fun H xs pq r Q q => by
  obtain ⟨v, rfl, rv⟩ := r.one
  obtain rfl := rv.int_inv
  exact .inl ⟨i, rfl, q _ H (Same.refl H) (.int _)⟩
theorem cg_intB {b : Bool} : CG B (fun xs H Q => (∃ i, xs = [.int i] ∧ Q (.int i) H) ∨ ∃ k, xs = [.bl k] ∧ Q (.int (if k then 1 else 0)) H) [.bl b] (.int (if b then 1 else 0)) := fun H xs pq r Q q => by
  obtain ⟨v, rfl, rv⟩ := r.one
  obtain rfl := rv.bl_inv
  exact .inr ⟨b, rfl, q _ H (Same.refl H) (.int _)⟩
theorem cg_min2 {i j : Int} : CG B (fun xs H Q => ∃ i j, xs = [.int i, .int j] ∧ Q (.int (if j < i then j else i)) H) [.int i, .int j] (.int (min i j)) := fun H xs pq r Q q => by
  obtain ⟨v, u, rfl, rv, ru⟩ := r.two
  obtain rfl := rv.int_inv
  obtain rfl := ru.int_inv
  refine ⟨i, j, rfl, ?_⟩
  have e : (if j < i then j else i) = min i j := by split <;> omega
  rw [e]
  exact q _ H (Same.refl H) (.int _)
theorem ra_ints {H : Hp} : ∀ {ns : List Int} {xs : List V}, RA B H xs (ns.map D.int) → xs = ns.map V.int
  | [], _, .nil => rfl
  | n :: ns, _, .cons r t => by rw [r.int_inv, ra_ints t]; rfl
theorem cg_sum {ns : List Int} : CG B (rSum B.K) [.lst (ns.map D.int)] (.int ns.sum) := fun H xs pq r Q q => by
  obtain ⟨v, rfl, rv⟩ := r.one
  obtain ⟨a, ys, rfl, hy, ry⟩ := rv.lst_inv
  rw [ra_ints ry] at hy
  exact ⟨a, ns, rfl, SqL.of hy, q _ H (Same.refl H) (.int _)⟩
theorem cg_max {ns : List Int} {m : Int} (hne : ns ≠ []) (h1 : m ∈ ns) (h2 : ∀ y ∈ ns, y ≤ m) : CG B (rMax B.K) [.lst (ns.map D.int)] (.int m) := fun H xs pq r Q q => by
  obtain ⟨v, rfl, rv⟩ := r.one
  obtain ⟨a, ys, rfl, hy, ry⟩ := rv.lst_inv
  rw [ra_ints ry] at hy
  refine ⟨a, ns, rfl, SqL.of hy, List.length_pos_iff.mpr hne, fun m' a1 a2 => ?_⟩
  have e : m' = m := Int.le_antisymm (h2 _ a1) (a2 _ h1)
  subst e
  exact q _ H (Same.refl H) (.int _)
theorem cg_tupleL {ds : List D} : CG B (rTupF B.K) [.lst ds] (.tup ds) := fun H xs pq r Q q => by
  obtain ⟨v, rfl, rv⟩ := r.one
  obtain ⟨a, ys, rfl, hy, ry⟩ := rv.lst_inv
  exact ⟨a, ys, rfl, .inl ⟨SqL.of hy, fun l o hl ho => q _ _ (same_new hl) (.tup (PT.new ho) (ry.ext (same_new hl)))⟩⟩
theorem cg_tupleT {ds : List D} : CG B (rTupF B.K) [.tup ds] (.tup ds) := fun H xs pq r Q q => by
  obtain ⟨v, rfl, rv⟩ := r.one
  obtain ⟨a, ys, rfl, hy, ry⟩ := rv.tup_inv
  exact ⟨a, ys, rfl, .inr ⟨hy.sq, q _ H (Same.refl H) (.tup hy ry)⟩⟩
theorem cg_listL {ds : List D} : CG B (rLstS B.K) [.tup ds] (.lst ds) := fun H xs pq r Q q => by
  obtain ⟨v, rfl, rv⟩ := r.one
  obtain ⟨a, ys, rfl, hy, ry⟩ := rv.tup_inv
  exact ⟨a, ys, rfl, .inr hy.sq, fun l hl => q _ _ (same_new hl) (.lst upd_same (pq.new hl) (ry.ext (same_new hl)))⟩
/-! isinstance -/
def tyN : D → Option String
  | .non => some "NoneType"
  | .bl _ => some "bool"
  | .int _ => some "int"
  | .str _ => some "str"
  | .tup _ => some "tuple"
  | .lst _ => some "list"
  | _ => none
theorem tyX {H : Hp} {v : V} {n : String} (r : R B H v d) (h : tyN d = some n) : TyX B.K H v (.type n) := by
  cases r with
  | non => cases h; exact .base .non
  | bl b => cases h; exact .base (.bl b)
  | int i => cases h; exact .base (.int i)
  | str x => cases h; exact .base (.str x)
  | tup hs _ =>
    cases h
    rcases hs with ⟨o, hs, _⟩ | ⟨o, its, n, hk, hc, _⟩
    · exact .fTuple hs
    · exact .kTuple hk hc
  | lst hs _ _ => cases h; exact .base (.lst hs)
  | dk _ _ _ => cases h
  | dn _ _ _ => cases h
  | raw v => cases h
theorem cg_isi {n c : String} {b : Bool} (h : tyN d = some n) (hk : kitB n c = some b) : CG B (rIsi B.K) [d, .raw (.ty c)] (.bl b) := fun H xs pq r Q q => by
  obtain ⟨v, u, rfl, rv, ru⟩ := r.two
  obtain rfl := ru.raw_inv
  exact ⟨v, .ty c, .type n, .type c, b, rfl, .ty c, tyX rv h, kit_ty hk, q _ H (Same.refl H) (.bl b)⟩
theorem eg_isi2 {n c c2 : String} {b b2 : Bool} (ha : EG B ta Γ d) (h : tyN d = some n) (hk : kitB n c = some b) (hk2 : kitB n c2 = some b2) :
    EG B (tCB (rIsiT B.K) (tCons ta (tCons (tTup (tCons (tC (.ty c)) (tCons (tC (.ty c2)) tNil))) tNil))) Γ (.bl (b || b2)) := fun σ H w Q q =>
  ha σ H w _ fun v H1 e1 rv => ⟨by show 2 ≤ sizeLine; decide, fun p hp => by
    refine ⟨v, p, [.ty c, .ty c2], .type n, [.type c, .type c2], b || b2, rfl, upd_same, .cons (.ty c) (.cons (.ty c2) .nil), tyX (rv.ext (same_new hp)) h, ?_, q _ _ (e1.trans (same_new hp)) (.bl _)⟩
    refine kitAny_cons (kit_ty hk) (fun e => ?_) (fun e => by rw [e]; rfl)
    refine kitAny_cons (kit_ty hk2) (fun e' => ?_) (fun e' => by rw [e']; exact Bool.or_true _)
    rw [e, e']
    exact kitAny_nil⟩
end
/-! the rules, the written part told -/
section
variable {X : Cx} {K : PySem.W.Frag} {tg l a b e : Expr} {es : List Expr} {tl ta tb te : TE} {pos : Pos}
theorem k_ix (h : X.K = K) : IxR X (rIxA K) := by subst h; exact ix_any
theorem k_add (h : X.K = K) : OpR X (binaryOp .Add) (rAddA K) := by subst h; exact op_addA
theorem k_eq (h : X.K = K) (hu : X.A.units + 64 < cLine) : OpR X (compareOp .Eq) (rEqA K) := by subst h; exact op_eqA hu
theorem k_ne (h : X.K = K) (hu : X.A.units + 64 < cLine) : OpR X (compareOp .NotEq) (rNeA K) := by subst h; exact op_neA hu
theorem k_in (h : X.K = K) (hu : X.A.units + 1 < cLine) : OpR X (compareOp .In) (rInX K) := by subst h; exact op_inX hu
theorem k_ni (h : X.K = K) (hu : X.A.units + 1 < cLine) : OpR X (compareOp .NotIn) (rNiX K) := by subst h; exact op_niX hu
theorem k_sl (h : X.K = K) : SlR X (rSlL K) := by subst h; exact sl_list
theorem k_list (h : X.K = K) (hl : PE X l tl) : PI X tg l (iList K tl) := by subst h; exact pi_list hl
theorem k_tup (h : X.K = K) (hl : PE X l tl) : PI X tg l (iTup K tl) := by subst h; exact pi_tup hl
theorem k_pg {es : List Expr} {k : Nat} {t : TGs} {n : Nat} (h' : X.K = K) (hc : X.calm = true) (h : PGs X es t)
    (hn : (assignEach es X.env).length = n := by rfl) (hst : (assignEach es X.env).findIdx? (·.1) = none := by rfl) : PG X (.Tuple es k pos) (gTup K n t) := by subst h'; exact pg_tup hc h hn hst
theorem k_len (h : X.K = K) : CallR X (.builtin "len") (rLenS K) := by subst h; exact call_len_seq
theorem k_lst (h : X.K = K) : CallR X (.type "list") (rLstS K) := by subst h; exact call_list_of
theorem k_sum (h : X.K = K) (hc : X.calm = true) : CallR X (.builtin "sum") (rSum K) := by subst h; exact cr_sum hc
theorem k_max (h : X.K = K) (hc : X.calm = true) : CallR X (.builtin "max") (rMax K) := by subst h; exact cr_max hc
theorem k_isi (h : X.K = K) : CallR X (.builtin "isinstance") (rIsi K) := by subst h; exact call_isi
theorem k_isiT (h : X.K = K) : CallR X (.builtin "isinstance") (rIsiT K) := by subst h; exact call_isiT
theorem k_fld {f : Str} (h : X.K = K) (he : PE X e ta) (hb : attributeBase e f X.env (eval e X.env) = eval e X.env) : PE X (.Attribute e f pos) (tFld K ta f) := by subst h; exact pe_fld he hb
theorem k_bm {o e : Expr} {es : List Expr} {to : TE} {t : TA} {name : Str} {apos cpos : Pos} {T id : String} {r : V → List V → Hp → VK → Prop} (h : X.K = K) (pa : PlainAttrs T) (slot : Slot T name id) (hty : typeOf (.builtin id) = pure (.type "method_descriptor")) (hm : MtR X id r) (ho : PE X o to) (ha : PA X (e :: es) t)
    (hbase : attributeBase o name X.env (eval o X.env) = eval o X.env := by rfl)
    (hfew : ((backTo cpos (starEach (e :: es) X.env)).all (fun x => !x.1) && (backToKw cpos (keywordEach [] X.env)).all (fun x => x.1.isSome)
      && decide ((e :: es).length + ([] : List Keyword).length + (if ([] : List Keyword).isEmpty then 0 else 1) < 30)) = true := by rfl)
    (hline : (apos.endLine == cpos.line) = true := by rfl) (hs : starEach (e :: es) X.env = (false, eval e X.env) :: starEach es X.env := by rfl) (hplain : (backTo cpos (starEach es X.env)).any (·.1) = false := by rfl) :
    PE X (.Call (.Attribute o name apos) (e :: es) [] cpos) (tBM K T r to t) := by subst h; exact pe_bm pa slot hty hm ho ha hbase hfew hline hs hplain
end
section
variable {B : Bs} {Γ : Gm} {d : D}
end
end Tl
end
section
set_option Elab.async false
set_option linter.all false
set_option maxRecDepth 100000
set_option maxHeartbeats 2000000
set_option autoImplicit false
/-! max(.., default=d) of a list of ints. -/
namespace Tl
open PySem PySem.Spec PyProof.Rows L2
section
variable {prog : Program} {w : World} {A : Around} {R : Result → Shared → Prop} {I : Addr} {fp wr : List Addr} {n : Nat} {P : Nat → Value → Prop} {St : Nat → Heap → Prop}
def mxKw (d : Value) : List (Str × Value) := [("default", d)]
theorem mx_name : (toString "max" ++ toString ".loop" : String) = "max.loop" := by decide
theorem mx_loop {d : Value} (W : Walks prog w A.in1 I fp wr n P St) (bt : Nat → Nat → Bool) (hcmp : CmpOf prog w A.in1 .Gt P bt) (S : Addr) (hSf : S ∉ fp) :
    ∀ (m j : Nat) (s : Shared) (x : Value) (c : Nat), n - (j + 1) = m → j + 1 ≤ n → St (j + 1) s.heap → P (argBest bt j) x →
      s.heap.get? S = some { cls := .type "list", dict := none, data := .seq #[x, x] c, slots := #[] } →
      (∀ v g tk, P (argBest bt (n - 1)) v → (∀ b o, b ∉ wr → b ≠ S → s.heap.get? b = some o → g.get? b = some o) → R (.ok (.ret v)) { s with heap := g, toks := tk }) →
      codeAny (model prog w) A (.builtin "max.loop" ⟨[.ref I, .none, .ref S], mxKw d⟩) R s
  | 0, j, s, x, c, hm, hj, st, px, hS, hR => by
    have hSw : S ∉ wr := fun z => hSf (W.sub _ z)
    have e : j + 1 = n := by omega
    refine codeAny_builtin PySem.F.entry_max_loop ?_
    rw [Around.under_plainId PySem.F.plain_max_loop _]
    show wpAny _ A.in1 (seqItems? (Value.ref S) >>= _) _ _ _
    refine wpAny_bind (wpAny_seqItems hS rfl ?_)
    show wpAny _ A.in1 (tryCatch (pyNext (Value.ref I)) _ >>= _) _ _ _
    refine wpAny_bind (wpAny_tryCatch (W.done s _ _ (e ▸ st) fun g tk kp => ?_))
    have hS2 := kp S _ hSw hS
    show wpAny _ A.in1 (updateSeq S (fun _ => #[]) >>= fun _ => _) _ _ _
    refine wpAny_bind ?_
    refine wpAny_updateSeq hS2 rfl (wpAny_bind (wpAny_letGo (wpAny_pure ?_)))
    exact hR x _ tk (by rw [← e]; exact px) fun b o h1 h2 q => (Heap.get?_update_other _ _ (Ne.symm h2)).trans (kp b o h1 q)
  | m + 1, j, s, x, c, hm, hj, st, px, hS, hR => by
    have hSw : S ∉ wr := fun z => hSf (W.sub _ z)
    have lt : j + 1 < n := by omega
    refine codeAny_builtin PySem.F.entry_max_loop ?_
    rw [Around.under_plainId PySem.F.plain_max_loop _]
    show wpAny _ A.in1 (seqItems? (Value.ref S) >>= _) _ _ _
    refine wpAny_bind (wpAny_seqItems hS rfl ?_)
    show wpAny _ A.in1 (tryCatch (pyNext (Value.ref I)) _ >>= _) _ _ _
    refine wpAny_bind (wpAny_tryCatch (W.item (j + 1) s _ _ lt st fun v g tk pv st2 kp => ?_))
    have hS2 := kp S _ hSw hS
    show wpAny _ A.in1 (tryCatch (holding [v, v] (richCompare CmpOp.Gt v x >>= _)) _ >>= _) _ _ _
    refine wpAny_bind (wpAny_tryCatch (wpAny_holding (wpAny_bind (hcmp (j + 1) (argBest bt j) v x _ _ _ pv px ?_))))
    refine wpAny_bind (wpAny_holding (wpAny_truthy_bool ?_))
    refine wpAny_bind (wpAny_letGo (wpAny_pure ?_))
    have ih := mx_loop (d := d) W bt hcmp S hSf m (j + 1)
    rcases hb : bt (j + 1) (argBest bt j) with _ | _
    · simp only [Bool.false_eq_true, if_false]
      refine wpAny_bind (wpAny_letGo ?_)
      rw [mx_name]
      have ea : argBest bt (j + 1) = argBest bt j := by simp only [argBest, hb, Bool.false_eq_true, if_false]
      refine wpAny_pure ⟨plainId_quiet PySem.F.plain_max_loop _, ih _ x c (by omega) lt st2 (by rw [ea]; exact px) hS2 fun v2 g2 tk2 pv2 kp2 => ?_⟩
      exact hR v2 g2 tk2 pv2 fun b o h1 h2 q => kp2 b o h1 h2 (kp b o h1 q)
    · simp only [if_true]
      refine wpAny_bind ?_
      refine wpAny_updateSeq hS2 rfl (wpAny_bind (wpAny_letGo ?_))
      rw [mx_name]
      have ea : argBest bt (j + 1) = j + 1 := by simp only [argBest, hb, if_true]
      refine wpAny_pure ⟨plainId_quiet PySem.F.plain_max_loop _, ih _ v _ (by omega) lt (W.frame _ _ _ st2 fun b hbf o q => ?_) (by rw [ea]; exact pv) (Heap.get?_update_self _ hS2 rfl) fun v2 g2 tk2 pv2 kp2 => ?_⟩
      · exact (Heap.get?_update_other _ _ (fun z : S = b => hSf (by rw [z]; exact hbf))).trans q
      · exact hR v2 g2 tk2 pv2 fun b o h1 h2 q => kp2 b o h1 h2 ((Heap.get?_update_other _ _ (Ne.symm h2)).trans (kp b o h1 q))
theorem mx_first {d : Value} (W : Walks prog w A.in1 I fp wr n P St) (bt : Nat → Nat → Bool) (hcmp : CmpOf prog w A.in1 .Gt P bt) (S : Addr) (hSf : S ∉ fp) {s : Shared} {c : Nat} (st : St 0 s.heap)
    (hS : s.heap.get? S = some { cls := .type "list", dict := none, data := .seq #[] c, slots := #[] })
    (h0 : n = 0 → ∀ g tk, (∀ b o, b ∉ wr → b ≠ S → s.heap.get? b = some o → g.get? b = some o) → R (.ok (.ret d)) { s with heap := g, toks := tk })
    (hR : 0 < n → ∀ v g tk, P (argBest bt (n - 1)) v → (∀ b o, b ∉ wr → b ≠ S → s.heap.get? b = some o → g.get? b = some o) → R (.ok (.ret v)) { s with heap := g, toks := tk }) :
    codeAny (model prog w) A (.builtin "max.loop" ⟨[.ref I, .none, .ref S], mxKw d⟩) R s := by
  have hSw : S ∉ wr := fun z => hSf (W.sub _ z)
  refine codeAny_builtin PySem.F.entry_max_loop ?_
  rw [Around.under_plainId PySem.F.plain_max_loop _]
  show wpAny _ A.in1 (seqItems? (Value.ref S) >>= _) _ _ _
  refine wpAny_bind (wpAny_seqItems hS rfl ?_)
  show wpAny _ A.in1 (tryCatch (pyNext (Value.ref I)) _ >>= _) _ _ _
  rcases Nat.eq_zero_or_pos n with e | hn
  · subst e
    refine wpAny_bind (wpAny_tryCatch (W.done s _ _ st fun g tk kp => ?_))
    show wpAny _ A.in1 (rule _ >>= fun _ => _) _ _ _
    refine wpAny_bind (wpAny_rule (wpAny_pure ?_))
    exact h0 rfl g tk fun b o h1 h2 q => kp b o h1 q
  · refine wpAny_bind (wpAny_tryCatch (W.item 0 s _ _ hn st fun v g tk pv st2 kp => ?_))
    have hS2 := kp S _ hSw hS
    show wpAny _ A.in1 (updateSeq S (fun _ => #[v, v]) >>= fun _ => _) _ _ _
    refine wpAny_bind ?_
    refine wpAny_updateSeq hS2 rfl ?_
    rw [mx_name]
    refine wpAny_pure ⟨plainId_quiet PySem.F.plain_max_loop _, mx_loop W bt hcmp S hSf _ 0 _ v _ rfl hn (W.frame _ _ _ st2 fun b hbf o q => ?_) pv (Heap.get?_update_self _ hS2 rfl) fun v2 g2 tk2 pv2 kp2 => ?_⟩
    · exact (Heap.get?_update_other _ _ (fun z : S = b => hSf (by rw [z]; exact hbf))).trans q
    · exact hR hn v2 g2 tk2 pv2 fun b o h1 h2 q => kp2 b o h1 h2 ((Heap.get?_update_other _ _ (Ne.symm h2)).trans (kp b o h1 q))
end
section
variable {prog : Program} {w : World} {A : Around} {E : Value → Shared → Prop} {s : Shared} {l : Addr} {xs : Array (Int × Tok)}
theorem mx_args (a d : Value) : argsOk "max" ⟨[a], mxKw d⟩ := by unfold argsOk mxKw; kernel_rfl
theorem mx_call {d : Value} {Q : Value → Shared → Prop} (hh : A.handled = none) (hl : s.heap.IsList l (intItems xs))
    (h0 : xs.size = 0 → ∀ g tk, (∀ b o, s.heap.get? b = some o → g.get? b = some o) → Q d { s with heap := g, toks := tk })
    (h : 0 < xs.size → ∀ v g tk, (intItems xs)[argBest (fun i j => decide (numAt xs i > numAt xs j)) (xs.size - 1)]? = some v → (∀ b o, s.heap.get? b = some o → g.get? b = some o) → Q v { s with heap := g, toks := tk }) :
    wpAny (model prog w) A (call (.builtin "max") [.ref l] (mxKw d)) Q E s := by
  refine kmk_tree PySem.F.kind_max PySem.F.plain_max PySem.F.entry_max (mx_args _ _) ?_
  show wpAny _ A.in1 (Builtin.Builtins.bindParams "max" ["key", "default"] 0 ⟨[], mxKw d⟩ >>= _) _ _ _
  refine wpAny_bind (wpAny_of_eq (show Builtin.Builtins.bindParams "max" ["key", "default"] 0 ⟨[], mxKw d⟩ = pure [none, some d] from rfl) ?_)
  refine wpAny_bind (wpAny_pure ?_)
  refine wpAny_bind (iter_intList hl fun s₂ e st hfp hlI => ?_)
  subst e
  refine wpAny_bind (wpAny_newObj_type ?_)
  rw [mx_name]
  have W := Walks.list (prog := prog) (w := w) (A := A.in1) hh s.heap.objs.size l hlI (intItems xs)
  have hsz : (intItems xs).size = xs.size := by simp [intItems]
  refine wpAny_pure ⟨plainId_quiet PySem.F.plain_max_loop _, mx_first W _ (CmpOf.ints_gt (numAt xs) fun _ _ => intItems_at) _ (fun hm => Nat.lt_irrefl _ (hfp _ hm)) (W.frame _ _ _ st fun b _ o e => Heap.get?_push_of_some _ e) (Heap.get?_push_size _ rfl) (fun hn g tk kp => ?_) fun hn v g tk pv kp => ?_⟩
  · refine h0 (hsz ▸ hn) g tk (old_kept fun b o hb e => kp b o hb (Nat.ne_of_lt (Heap.lt_size e)) (Heap.get?_push_of_some _ e))
  · rw [hsz] at hn pv
    refine h hn v g tk pv (old_kept fun b o hb e => kp b o hb (Nat.ne_of_lt (Heap.lt_size e)) (Heap.get?_push_of_some _ e))
end
/-- max(xs, default=d) -/
def rMaxDf (K : PySem.W.Frag) : List V → List V → Hp → VK → Prop := fun vs zs H Q => ∃ (a : Addr) (ns : List Int) (d : Int), vs = [V.ref a] ∧ zs = [V.int d] ∧ SqL K H a (ns.map V.int) ∧ (ns = [] → Q (.int d) H) ∧ (ns ≠ [] → ∀ m, m ∈ ns → (∀ y, y ∈ ns → y ≤ m) → Q (.int m) H)
section
variable {X : Cx}
theorem cr_maxDf (hc : X.calm = true) : CallRK X (.builtin "max") ["default"] (rMaxDf X.K) := by
  intro pins s σ H vs zs us ws Q I r rz h
  obtain ⟨a, ns, d, rfl, rfl, hs, q0, q1⟩ := h
  obtain ⟨its, rv, hl, _⟩ := I.list hs
  rw [Vals.ref1 r]
  obtain ⟨w1, rfl, td, rfl⟩ := vals1 rz
  have hi := rv.ints
  obtain ⟨xs, e⟩ := hi.allInts.items
  have hn : numsOf (intItems xs).toList = ns := by rw [← e]; exact hi.numsOf
  rw [nums_intItems] at hn
  subst hn
  have hl2 := hl.isList
  rw [e] at hl2
  refine mx_call (I.ok.hd hc) hl2 (fun hz g tk kp => ?_) fun hz v g tk hv kp => ?_
  · refine ⟨.int d, H, I.kept kp, ⟨_, rfl⟩, q0 ?_⟩
    have : xs = #[] := Array.eq_empty_of_size_eq_zero hz
    rw [this]
    rfl
  · obtain ⟨t, rfl⟩ := intItems_at hv
    obtain ⟨h1, h2⟩ := argBest_gt (numAt xs) (xs.size - 1)
    refine ⟨.int _, H, I.kept kp, ⟨_, rfl⟩, q1 (fun z => ?_) _ ?_ fun y hy => ?_⟩
    · have z2 := congrArg List.length z
      rw [List.length_map, Array.length_toList, List.length_nil] at z2
      omega
    · rw [numAt_eq]; exact PySem.getD_mem (by rw [List.length_map, Array.length_toList]; omega)
    · obtain ⟨j, hj, rfl⟩ := mem_getD hy
      rw [List.length_map, Array.length_toList] at hj
      rw [← numAt_eq]; exact h2 j (by omega)
end
end Tl
end
section
set_option Elab.async false
set_option linter.all false
set_option maxRecDepth 100000
set_option maxHeartbeats 2000000
set_option autoImplicit false
/-! Chains of three, list.count of texts, fields as targets, dict(tuple of pairs), sorted(tuple of pairs). -/
namespace Tl
open PySem PySem.Spec PyProof.Rows L2
/-! a < b < c <= d -/
def tChain3 (r1 r2 r3 : R2) (ta tb tc td : TE) : TE := fun σ H Q => ta σ H fun x H1 => tb σ H1 fun y H2 => r1 x y H2 fun z H3 => ∃ k, z = .bl k ∧
  (if k = true then tc σ H3 fun w H4 => r2 y w H4 fun z2 H5 => ∃ k2, z2 = .bl k2 ∧ (if k2 = true then td σ H5 fun u H6 => r3 w u H6 Q else Q (.bl false) H5) else Q (.bl false) H3)
section
variable {X : Cx} {a b c d : Expr} {ta tb tc td : TE} {pos : Pos} {o1 o2 o3 : CmpOp} {r1 r2 r3 : R2}
theorem pe_chain3 (h1 : OpR X (compareOp o1) r1) (h2 : OpR X (compareOp o2) r2) (h3 : OpR X (compareOp o3) r3) (ha : PE X a ta) (hb : PE X b tb) (hc : PE X c tc) (hd : PE X d td)
    (hm : lastMarks [o1, o2, o3] [b, c, d] = false := by with_unfolding_all rfl) : PE X (.Compare a [o1, o2, o3] [b, c, d] pos) (tChain3 r1 r2 r3 ta tb tc td) := by
  refine ⟨fun pins s σ H Q I h => ?_⟩
  refine Compare_chain (thn (ha.run pins s σ H _ I h) fun v s1 hh1 => ?_) hm
  obtain ⟨x, H1, I1, rx, q1⟩ := hh1
  refine chain_link (thn (hb.run pins s1 σ H1 _ I1 q1) fun u s2 hh2 => ?_)
  obtain ⟨y, H2, I2, ry, q2⟩ := hh2
  refine thn (h1 pins s2 σ H2 x y v u _ I2 rx ry q2) fun p s3 hh3 => ?_
  obtain ⟨z, H3, I3, rz, k, e, q3⟩ := hh3
  subst e
  cases rz
  refine wpAny_truthy_bool ?_
  cases k with
  | false => exact ite_ff ⟨.bl false, H3, I3, rfl, q3⟩
  | true =>
    refine ite_tt (chain_link (thn (hc.run pins s3 σ H3 _ I3 q3) fun w s4 hh4 => ?_))
    obtain ⟨x4, H4, I4, r4, q4⟩ := hh4
    refine thn (h2 pins s4 σ H4 y x4 u w _ I4 ry r4 q4) fun p5 s5 hh5 => ?_
    obtain ⟨z5, H5, I5, r5, k5, e5, q5⟩ := hh5
    subst e5
    cases r5
    refine wpAny_truthy_bool ?_
    cases k5 with
    | false => exact ite_ff ⟨.bl false, H5, I5, rfl, q5⟩
    | true =>
      refine ite_tt (chain_last (thn (hd.run pins s5 σ H5 _ I5 q5) fun w6 s6 hh6 => ?_))
      obtain ⟨x6, H6, I6, r6, q6⟩ := hh6
      exact h3 pins s6 σ H6 x4 x6 w w6 Q I6 r4 r6 q6
end
section
variable {B : Bs} {Γ : Gm} {ta tb tc td : TE}
theorem eg_chain3 {r1 r2 r3 : R2} {x y z w : D} {k1 k2 k3 : Bool} (ha : EG B ta Γ x) (hb : EG B tb Γ y) (hc : EG B tc Γ z) (hd : EG B td Γ w) (h1 : OG B r1 x y (.bl k1)) (h2 : OG B r2 y z (.bl k2)) (h3 : OG B r3 z w (.bl k3)) :
    EG B (tChain3 r1 r2 r3 ta tb tc td) Γ (.bl (k1 && (k2 && k3))) := fun σ H r Q q =>
  ha σ H r _ fun v1 H1 e1 ra => hb σ H1 (r.ext e1) _ fun v2 H2 e2 rb => h1 H2 v1 v2 (r.ext (e1.trans e2)).pp (ra.ext e2) rb _ fun v3 H3 e3 r3 => ⟨k1, r3.bl_inv, by
    cases k1 with
    | false => exact q _ H3 (e1.trans (e2.trans e3)) (.bl false)
    | true =>
      rw [if_pos rfl]
      refine hc σ H3 (r.ext (e1.trans (e2.trans e3))) _ fun v4 H4 e4 rc => h2 H4 v2 v4 (r.ext (e1.trans (e2.trans (e3.trans e4)))).pp (rb.ext (e3.trans e4)) rc _ fun v5 H5 e5 r5 => ⟨k2, r5.bl_inv, ?_⟩
      cases k2 with
      | false => exact q _ H5 (e1.trans (e2.trans (e3.trans (e4.trans e5)))) (.bl false)
      | true =>
        rw [if_pos rfl]
        exact hd σ H5 (r.ext (e1.trans (e2.trans (e3.trans (e4.trans e5))))) _ fun v6 H6 e6 rd => h3 H6 v4 v6 (r.ext (e1.trans (e2.trans (e3.trans (e4.trans (e5.trans e6)))))).pp (rc.ext (e5.trans e6)) rd _ fun v7 H7 e7 r7 => q _ H7 (e1.trans (e2.trans (e3.trans (e4.trans (e5.trans (e6.trans e7)))))) r7⟩
end
/-! list.count of texts -/
def eqt (k : Str) (v : Value) : Bool := match v with
  | .str x _ => x == k
  | _ => false
theorem eqt_at {k : Str} {t : Tok} {A : Around} {s : Shared} : ∀ {us : List Value} {ns : List Str}, StrsAre us ns → ∀ y ∈ us, SeqAt.EqAt A s y (.str k t) (eqt k y)
  | _, _, .nil => fun y hy => by cases hy
  | _, _, .cons n u h => fun y hy => by
    rcases List.mem_cons.mp hy with e | e
    · rw [e]
      exact SeqAt.EqAt.str_str n u k t
    · exact eqt_at h y e
theorem eqt_count {k : Str} : ∀ {us : List Value} {ns : List Str}, StrsAre us ns → us.countP (eqt k) = ns.count k
  | _, _, .nil => rfl
  | _, _, .cons n t h => by
    have ih := eqt_count (k := k) h
    rw [List.countP_cons, List.count_cons, ih] <;> rfl
def rCntS (K : PySem.W.Frag) : V → List V → Hp → VK → Prop := fun x xs H Q => ∃ (p : Addr) (ns : List Str) (k : Str), x = .ref p ∧ xs = [.str k] ∧ SqL K H p (ns.map V.str) ∧ Q (.int (ns.count k : Nat)) H
theorem mt_lcountS {X : Cx} {K : PySem.W.Frag} (hK : X.K = K) : MtR X "list.count" (rCntS K) := by
  subst hK
  intro pins s σ H x xs v us Q I rx rxs h
  obtain ⟨p, ns, k, rfl, rfl, hs, q⟩ := h
  cases rx
  obtain ⟨u, rfl, t, rfl⟩ := rxs.one
  obtain ⟨its, rv, ⟨⟨cls, dd, data, sl⟩, n, ho, hc, hdn, hd⟩, hlen⟩ := I.list hs
  simp only at hc hd
  subst hc hd
  have hi := Vals.strs rv
  refine call_meets PySem.F.slot_list_count ⟨_, ho, rfl⟩ PySem.F.entry_list_count (PySem.F.args_list_count_2 _ _)
    (SeqAt.list_countAt p its.toArray n dd sl (.str k t) (eqt k)) ⟨ho, fun y hy => eqt_at hi y (by simpa using hy), ?_⟩
  have ec : its.toArray.toList.countP (eqt k) = ns.count k := eqt_count hi
  refine ⟨.int (ns.count k : Nat), H, I.tok _, ⟨s.toks, ?_⟩, q⟩
  rw [ec]
/-! x.f as a target -/
def gFld (K : PySem.W.Frag) (to : TE) (f : Str) : TG := fun y σ H Q => to σ H fun x H1 => ∃ a C dx fs, x = .ref a ∧ H1 a = some (.ins C dx fs) ∧ Cls K C ∧ NoAttr K C f ∧ fs.length < 1000 ∧ Q σ (upd H1 a (.ins C dx (putF f y fs)))
theorem pg_fld {X : Cx} {K : PySem.W.Frag} {o : Expr} {f : Str} {to : TE} {pos : Pos} (hK : X.K = K) (ho : PE X o to) : PG X (.Attribute o f pos) (gFld K to f) := by
  subst hK
  refine ⟨fun pins s σ H v u Q I r h => ?_⟩
  rw [assign_Attribute]
  refine wpAny_bind (wpAny_holding (thn (ho.run pins s σ H _ I h) fun ov s1 hh => ?_))
  obtain ⟨x, H1, I1, r1, a, C, dx, fs, ex, ea, c, n, l, q⟩ := hh
  subst ex
  obtain rfl : ov = Value.ref a := r1
  refine wpAny_bind (wpAny_standAt (wpAny_bind (wpAny_holding (setattr_ok I1 ea c n l r fun s3 I3 => ?_))))
  exact wpAny_release ⟨σ, _, I3, q⟩
/-! dict(a tuple of pairs) -/
section
variable {X : Cx}
theorem pt_plain {pins : List (Addr × Obj)} {σ : L2.St} {H : Hp} {s : Shared} {a : Addr} {xs : List V} (I : Inv X pins σ H s) (h : PT X.K H a xs) : ∃ its : List Value, Vals xs its ∧ PlainSeq "tuple" s.heap a its.toArray ∧ xs.length ≤ sizeLine := by
  rcases h with ⟨o, h, hd⟩ | ⟨o, its, n, hk, hc, hd, hs, hz, r⟩
  · obtain ⟨e, z, its, r, o2, e2, c, n, d⟩ := (show ObjOk X.prog X.w H s.heap a (.frz o (.tup xs)) from I.hok a _ h)
    have eo : o = o2 := Option.some.inj (e.symm.trans e2)
    subst eo
    exact ⟨its, r, ⟨o, n, e, c, hd, d⟩, z⟩
  · refine ⟨its.toList, r, ⟨o, n, I.kIn a o hk, hc, hd, by simpa using hs⟩, ?_⟩
    have e := r.length
    simp only [Array.length_toList] at e
    omega
theorem prs_of {pins : List (Addr × Obj)} {σ : L2.St} {H : Hp} {s : Shared} (I : Inv X pins σ H s) : ∀ {ps : List Addr} {kvs : List (Key × V)}, Paired (fun p kv => SqT X.K H p [kV kv.1, kv.2]) ps kvs →
    ∃ (prs : List (Key × Value)) (uvs : List (Value × Value)), KV kvs prs ∧ prs.length = ps.length ∧ uvs.length = ps.length ∧
      ∀ (j : Nat) (k v : Value), uvs[j]? = some (k, v) → ∃ (q : Key) (b : Addr), prs[j]? = some (q, v) ∧ ps[j]? = some b ∧ s.heap.IsTuple b #[k, v] ∧ keyIs q k = true
  | _, _, .nil => ⟨[], [], .nil, rfl, rfl, fun j k v e => by simp at e⟩
  | _, _, .cons (a := p) (b := kv) h t => by
    obtain ⟨prs, uvs, r, l1, l2, hp⟩ := prs_of I t
    obtain ⟨its, rv, ht, _⟩ := I.tuple h
    obtain ⟨u, y, ei, ru, ry⟩ := vals2 rv
    subst ei
    refine ⟨(kv.1, y) :: prs, (u, y) :: uvs, .cons ⟨rfl, ry⟩ r, by rw [List.length_cons, List.length_cons, l1], by rw [List.length_cons, List.length_cons, l2], fun j k v e => ?_⟩
    cases j with
    | zero =>
      cases (Option.some.inj e : (u, y) = (k, v))
      exact ⟨kv.1, p, rfl, rfl, ht, kV_is (P := X.prog) (w := X.w) ru⟩
    | succ j =>
      obtain ⟨q, b, e1, e2, e3, e4⟩ := hp j k v (by simpa using e)
      exact ⟨q, b, by simpa using e1, by simpa using e2, e3, e4⟩
def rDictT (K : PySem.W.Frag) : List V → Hp → VK → Prop := fun xs H Q => ∃ (a : Addr) (ps : List Addr) (kvs : List (Key × V)), xs = [.ref a] ∧ PT K H a (ps.map V.ref) ∧ Paired (fun p kv => SqT K H p [kV kv.1, kv.2]) ps kvs ∧
  ∀ p, H p = none → Q (.ref p) (upd H p (.dK (mergeK [] kvs)))
theorem k_dictT {K : PySem.W.Frag} (hK : X.K = K) (hcalm : X.calm = true) : CallR X (.type "dict") (rDictT K) := by
  subst hK
  intro pins s σ H xs us Q I r q
  obtain ⟨a, ps, kvs, rfl, hq, hp, q⟩ := q
  obtain ⟨u, rfl, rx⟩ := vals1 r
  cases rx
  obtain ⟨its, rv, pl, hz⟩ := pt_plain I hq
  have ei := refs_at rv
  subst ei
  rw [List.length_map] at hz
  obtain ⟨prs, uvs, rel, l1, l2, hpr⟩ := prs_of I hp
  refine PySem.call_dict_pairs (knd := mixKind X.prog X.w) (kvs := prs) (PairArg.tuple a (ps.map Value.ref).toArray (fun j => ps.getD j 0) uvs) (I.ok.hd hcalm) ⟨pl, by simp [l2], fun j k v e => ?_⟩ ⟨by rw [l1, l2], fun i k v e => ?_⟩ (by rw [l2]; exact hz) fun h' tk hd' kp => ?_
  · obtain ⟨q', b, e1, e2, e3, e4⟩ := hpr j k v e
    have eb : ps.getD j 0 = b := by rw [List.getD_eq_getElem?_getD, e2] <;> rfl
    show (ps.map Value.ref).toArray[j]? = some (.ref (ps.getD j 0)) ∧ PairAt s.heap (ps.getD j 0) k v
    rw [eb]
    exact ⟨by simp [e2], .inl e3⟩
  · obtain ⟨q', b, e1, e2, e3, e4⟩ := hpr i k v e
    exact ⟨q', e1, e4⟩
  · have hm : (s.heap.objs.size == sysModules) = false := beq_eq_false_iff_ne.mpr (Nat.ne_of_gt I.big)
    have hlen : (mergeK [] kvs).length ≤ sizeLine := by
      refine Nat.le_trans (length_mergeK kvs []) ?_
      rw [List.length_nil, Nat.zero_add, rel.length, l1]
      exact hz
    have kp2 : ∀ b o, s.heap.get? b = some o → h'.get? b = some o := fun b o e => kp b o (by simp) e
    exact ⟨.ref s.heap.objs.size, upd H s.heap.objs.size (.dK (mergeK [] kvs)), I.laid (t' := tk) kp2 (Nat.le_refl _) (show ObjOk X.prog X.w _ _ _ (.dK (mergeK [] kvs)) from ⟨hlen, hm, merged [] prs, KV.merge rel .nil, hd'⟩), rfl, q _ (I.hok.fresh (Nat.le_refl _))⟩
end
/-! sorted(a tuple of pairs of ints) -/
def rSortT (K : PySem.W.Frag) : List V → Hp → VK → Prop := fun vs H Q => ∃ (a : Addr) (zs : List (V × (Int × Int))), vs = [V.ref a] ∧ SqT K H a (zs.map (·.1)) ∧ (∀ z ∈ zs, ∃ t, z.1 = V.ref t ∧ SqT K H t [.int z.2.1, .int z.2.2]) ∧
  ∀ (ws : List (V × (Int × Int))) (p : Addr), SrtO.Srtd SrtO.lexB (ws.map (·.2)) → ws.Perm zs → H p = none → Q (.ref p) (upd H p (.lst (ws.map (·.1))))
def keyOf (zs : List (V × (Int × Int))) (x : V) : Int × Int := ((zs.find? fun z => decide (z.1 = x)).map (·.2)).getD (0, 0)
theorem keyOf_mem {zs : List (V × (Int × Int))} (h : ∀ z ∈ zs, ∀ w ∈ zs, z.1 = w.1 → z.2 = w.2) {z : V × (Int × Int)} (hz : z ∈ zs) : keyOf zs z.1 = z.2 := by
  unfold keyOf
  cases e : zs.find? fun w => decide (w.1 = z.1) with
  | none =>
    have := List.find?_eq_none.mp e z hz
    simp at this
  | some w =>
    have h1 := List.mem_of_find?_eq_some e
    have h2 := List.find?_some e
    exact h w h1 z hz (of_decide_eq_true h2)
theorem k_sorted {X : Cx} {K : PySem.W.Frag} (hK : X.K = K) : CallR X (.builtin "sorted") (rSortT K) := by
  subst hK
  intro pins s σ H vs us Q I r h
  obtain ⟨a, zs, rfl, hs, hx, q⟩ := h
  have hu : ∀ z ∈ zs, ∀ w ∈ zs, z.1 = w.1 → z.2 = w.2 := fun z hz w hw e => by
    obtain ⟨t, e1, h1⟩ := hx z hz
    obtain ⟨t', e2, h2⟩ := hx w hw
    rw [e, e2] at e1
    cases e1
    have e3 := I.tuple_inj h1 h2
    simp only [List.cons.injEq, V.int.injEq, and_true] at e3
    exact Prod.ext e3.1 e3.2
  generalize hk : keyOf zs = k
  have hkz : ∀ z ∈ zs, k z.1 = z.2 := fun z hz => hk ▸ keyOf_mem hu hz
  generalize hxs : zs.map (·.1) = xs at hs
  have hzs : xs.map (fun x => (x, k x)) = zs := by
    rw [← hxs, List.map_map]
    have e : ∀ z ∈ zs, ((fun x => (x, k x)) ∘ Prod.fst) z = z := fun z hz => Prod.ext rfl (hkz z hz)
    rw [List.map_congr_left e, List.map_id']
  have hx : ∀ x ∈ xs, ∃ t, x = V.ref t ∧ SqT X.K H t [.int (k x).1, .int (k x).2] := fun x hm => by
    rw [← hxs] at hm
    obtain ⟨z, hz, rfl⟩ := List.mem_map.mp hm
    obtain ⟨t, e1, h1⟩ := hx z hz
    rw [hkz z hz]
    exact ⟨t, e1, h1⟩
  replace q : ∀ ys p, SrtO.Srtd (ltP k) ys → ys.Perm xs → H p = none → Q (.ref p) (upd H p (.lst ys)) := fun ys p h1 h2 h3 => by
    have z := q (ys.map fun x => (x, k x)) p (by rw [List.map_map]; exact SrtO.srtd_map (f := k) h1) (by rw [← hzs]; exact h2.map _) h3
    rw [List.map_map] at z
    have e : (Prod.fst ∘ fun x => (x, k x)) = (id : V → V) := rfl
    rw [e, List.map_id] at z
    exact z
  obtain ⟨its, rv, ⟨ot, hot, hct, nt, hdt⟩, hz⟩ := I.tuple hs
  obtain ⟨u, rfl, ru⟩ := vals1 r
  obtain rfl : u = Value.ref a := ru
  obtain ⟨e1, e2⟩ := refs_back rv fun x m => by
    obtain ⟨t, e, _⟩ := hx x m
    exact ⟨t, e⟩
  have hp : ∀ v ∈ its, Srt.IsPair s.heap v (k (backV v)).1 (k (backV v)).2 := fun v hv => by
    obtain ⟨t, rfl⟩ := e2 v hv
    have hm : V.ref t ∈ xs := by rw [e1]; exact List.mem_map.mpr ⟨_, hv, rfl⟩
    obtain ⟨t', e, ht⟩ := hx _ hm
    cases e
    obtain ⟨its2, r2, ⟨o, ho, hc, n, hd⟩, _⟩ := I.tuple ht
    obtain ⟨u1, u2, rfl, ⟨t1, rfl⟩, ⟨t2, rfl⟩⟩ := vals2 r2
    exact ⟨t, o, t1, t2, n, rfl, ho, hc, hd⟩
  have hzi : its.length ≤ sizeLine := by rw [← rv.length]; exact hz
  refine Calls.call_function_entry PyProof.Rows.kind_sorted PyProof.Rows.plain_sorted PyProof.Rows.entry_sorted (PyProof.Rows.args_sorted1 _) ?_
  unfold Builtin.«sorted»
  refine wpAny_bind (m := checkCount "sorted" 1 1 _) (wpAny_pure ?_)
  refine wpAny_bind (wpAny_collect_seq a (T := "tuple") (.inr rfl) hot hct hdt (fun h1 kp1 => ?_) (by simpa using hzi))
  refine wpAny_bind (wpAny_newList ?_ (by simpa using hzi))
  have hoL : (h1.push (seqObj "list" its.toArray 0)).get? h1.objs.size = some (seqObj "list" its.toArray 0) := Heap.get?_push_size _ rfl
  have kp2 : ∀ b o, s.heap.get? b = some o → b ≠ h1.objs.size ∧ (h1.push (seqObj "list" its.toArray 0)).get? b = some o := fun b o e =>
    ⟨Nat.ne_of_lt (Heap.lt_size (kp1 b o e)), Heap.get?_push_of_some _ (kp1 b o e)⟩
  refine wpAny_bind (wpAny_holding (wpAny_call_entry PyProof.Rows.slot_list_sort ⟨_, hoL, rfl⟩ PyProof.Rows.entry_list_sort
    (SrtO.list_sort_ord (s := { s with heap := h1.push (seqObj "list" its.toArray 0) }) (SrtO.swo_lex fun u => k (backV u)) hoL hzi (fun h2 => SrtO.pairs_sortableO (by omega) (fun v hm => (hp v hm).keeps fun b o e _ => (kp2 b o e).2) fun o e c => ?_) fun out hs hb => ⟨_, rfl, ?_⟩) (PyProof.Rows.args_list_sort _)))
  · have e' : some o = some (seqObj "list" its.toArray 0) := e.symm.trans hoL
    cases e'
    exact absurd (Value.type.inj c) (by decide)
  · have h2p : out.Perm its := hb.perm
    have h3 : ∀ u ∈ out, ∃ a, u = Value.ref a := fun u hu => e2 u (h2p.mem_iff.mp hu)
    have hbp : (out.map backV).Perm xs := by
      rw [e1]
      exact h2p.map backV
    obtain ⟨ep, he'⟩ := PyProof.Rows.sortedHeap_at (vs := its) (out := out.toArray) hoL
    have I1 : Inv X pins σ H { s with heap := h1 } := I.kept (t' := s.toks) kp1
    refine wpAny_pure ⟨_, rfl, .ref h1.objs.size, upd H h1.objs.size (.lst (out.map backV)), I1.laid (t' := s.toks) (fun b o e => ?_) (Nat.le_refl _) ⟨?_, out, ep, vals_back h3, he'⟩, rfl, q _ _ (SrtO.srtd_map hs) hbp (I1.hok.fresh (Nat.le_refl _))⟩
    · have lt : b < h1.objs.size := Heap.lt_size e
      exact (PyProof.Rows.sortedHeap_old (Nat.ne_of_lt lt) (by rw [Heap.size_push]; exact Nat.lt_succ_of_lt lt)).trans (Heap.get?_push_of_some _ e)
    · rw [hbp.length_eq]; exact hz
end Tl
end
section
set_option Elab.async false
set_option linter.all false
set_option maxRecDepth 100000
set_option maxHeartbeats 2000000
set_option autoImplicit false
/-! for i, x in enumerate(a list or a tuple), the pair plain. -/
namespace Tl
open PySem PySem.Spec PyProof.Rows L2
/-- a list or a tuple, as enumerate walks it -/
structure EnSrc (P : Program) (w : World) (K : PySem.W.Frag) (a it : Addr) (sq : Hp → List V → Prop) (Pl : Heap → Array Value → Prop) (At : Heap → Nat → Prop) : Prop where
  val : ∀ (X : Cx), X.K = K → ∀ (pins : List (Addr × Obj)) (σ : L2.St) (H : Hp) (s : Shared) (xs : List V), Inv X pins σ H s → sq H xs → ∃ its : List Value, Vals xs its ∧ Pl s.heap its.toArray
  inj : ∀ (X : Cx), X.K = K → ∀ (pins : List (Addr × Obj)) (σ : L2.St) (H : Hp) (s : Shared) (xs ys : List V), Inv X pins σ H s → sq H xs → sq H ys → xs = ys
  dr : ∀ (A : Around), A.handled = none → ∀ items : Array Value, Draws P w A it [it, a] items.size (fun i v => items[i]? = some v) (fun i h => At h i ∧ Pl h items)
  there : ∀ h i, At h i → ∃ o, h.get? it = some o ∧ ∃ vs, o.data = .fields vs
  keep : ∀ h h' i, At h i → (∀ o, h.get? it = some o → h'.get? it = some o) → At h' i
  pl : ∀ h its, Pl h its → a ∈ [a] ∧ ∃ o, h.get? a = some o
def IteF (sq : Hp → List V → Prop) : It :=
  ⟨fun i H => ∃ (xs : List V) (x : V), sq H xs ∧ xs[i]? = some x, fun i H v H' => ∃ T x o, v = .ref T ∧ H T = none ∧ o.dict = none ∧ H' = upd H T (.frz o (.tup [.int (i : Nat), x])) ∧ ∀ xs, sq H xs → xs[i]? = some x,
    fun i H => ∃ xs : List V, sq H xs ∧ xs.length = i⟩
theorem turn_en {P : Program} {w : World} {K : PySem.W.Frag} {elts : List Expr} {kk : Nat} {tpos : Pos} {a it : Addr} {sq : Hp → List V → Prop} {Pl : Heap → Array Value → Prop} {At : Heap → Nat → Prop} (S : EnSrc P w K a it sq Pl At) (e : Addr) :
    Turn P w K (.Tuple elts kk tpos) (IteF sq) [e, it] e (fun i h => (∃ old, IsEnum h e it ((i : Nat) : Int) old) ∧ At h i ∧ e ≠ it ∧ e ≠ a) where
  mem := by simp
  obj := fun i h st b hb => by
    obtain ⟨⟨old, he⟩, hi, _⟩ := st
    obtain ⟨o, ho, vs, hd⟩ := S.there _ _ hi
    have e' : b = e ∨ b = it := by simpa using hb
    rcases e' with z | z
    · rw [z]; exact ⟨_, he, fun v q => nomatch q⟩
    · rw [z]; exact ⟨o, ho, fun v q => by rw [hd] at q; cases q⟩
  keep := fun i h h' st k => by
    obtain ⟨⟨old, he⟩, hi, hn⟩ := st
    exact ⟨⟨old, k e (by simp) _ he⟩, S.keep _ _ _ hi fun o q => k it (by simp) o q, hn⟩
  item := by
    intro X hP hw hK hc i pins s σ H E I hf st hg
    subst hP hw
    obtain ⟨⟨old, he⟩, hit, hne, hna⟩ := st
    obtain ⟨xs, x, hq, hx⟩ := hg
    obtain ⟨its, rv, p⟩ := S.val X hK _ _ _ _ _ I hq
    obtain ⟨u, hu, ru⟩ := rv.get hx
    have hel : e < s.heap.objs.size := Heap.lt_size he
    have hil : it < s.heap.objs.size := by obtain ⟨_, q, _⟩ := S.there _ _ hit; exact Heap.lt_size q
    have hlt : i < its.toArray.size := by
      rw [List.size_toArray]
      exact (List.getElem?_eq_some_iff.mp hu).1
    refine wpAny_pyNext_enum_itemD (S.dr X.A.in1 (I.ok.hd hc) its.toArray) he ⟨hit, p⟩ hlt hne (by simp; exact ⟨hne, hna⟩) fun x' h' tk hx' ho hs' hT hsz hk => ?_
    have ex : x' = u := by
      have z : its.toArray[i]? = some u := by simpa using hu
      exact Option.some.inj (hx'.symm.trans z)
    subst ex
    refine ⟨_, rfl, wpAny_letOwnedTupleGo_enum (s := { s with heap := h', toks := tk + 1 }) ho fun h'' he' sb => ?_⟩
    have hT2 : h''.get? s.heap.objs.size = some { cls := .type "tuple", data := .seq #[.int i tk, x'] } := (sb.2 _ (Nat.ne_of_gt hel)).trans hT
    have new : ObjOk X.prog X.w (upd H s.heap.objs.size (.frz { cls := .type "tuple", data := .seq #[.int i tk, x'] } (.tup [.int (i : Nat), x]))) h'' s.heap.objs.size (.frz { cls := .type "tuple", data := .seq #[.int i tk, x'] } (.tup [.int (i : Nat), x])) :=
      ⟨hT2, by show 2 ≤ sizeLine; decide, [.int i tk, x'], .cons ⟨_, rfl⟩ (.cons ru .nil), ⟨_, hT2, rfl, _, rfl⟩⟩
    have I1 := I.turnedNew (t' := tk + 1) (ch := [e, it]) (fun b ob hb q => (sb.2 b (fun z => hb (by simp [z]))).trans (hk b ob (fun z => hb (by simp [z])) (fun z => hb (by simp [z])) q)) hf (Nat.le_refl _) new
    refine ⟨.ref s.heap.objs.size, _, I1, rfl, ⟨_, x, _, rfl, I.hok.fresh (Nat.le_refl _), rfl, rfl, fun ys hy => by rw [S.inj X hK _ _ _ _ _ _ I hy hq]; exact hx⟩, ⟨⟨x', ?_⟩, S.keep _ _ _ hs'.1 fun o q => (sb.2 it (Ne.symm hne)).trans q, hne, hna⟩, fun b hb => ?_⟩
    · have e1 : ((i + 1 : Nat) : Int) = (i : Int) + 1 := by omega
      rw [e1]; exact he'
    · have hb' : b < s.heap.objs.size := by
        have e' : b = e ∨ b = it := by simpa using hb
        rcases e' with z | z
        · rw [z]; exact hel
        · rw [z]; exact hil
      rw [upd_ne (Nat.ne_of_lt hb')]
      exact (hf b hb).1
  done := by
    intro X hP hw hK hc i pins s σ H E I hf st hg
    subst hP hw
    obtain ⟨⟨old, he⟩, hit, hne, hna⟩ := st
    obtain ⟨xs, hq, hx⟩ := hg
    obtain ⟨its, rv, p⟩ := S.val X hK _ _ _ _ _ I hq
    obtain ⟨f0, f1, f2, f3, f4, f5⟩ := hf it (by simp)
    have hl := rv.length
    have hi : i = its.toArray.size := by rw [List.size_toArray, ← hl, hx]
    refine wpAny_pyNext_enum_endD (S.dr X.A.in1 (I.ok.hd hc) its.toArray) he ⟨hi ▸ hit, p⟩ fun h' eb => ⟨rfl, I.turned (t' := s.toks) (fun b o hb q => eb b o hb q) f0 f1 f3 f4 f5⟩
  self := fun A i s Q E st h => let ⟨⟨_, he⟩, _⟩ := st; wpAny_pyIter_enum he h
theorem src_tup {P : Program} {w : World} {K : PySem.W.Frag} {a it : Addr} (hne : a ≠ it) : EnSrc P w K a it (fun H xs => SqT K H a xs) (fun h its => h.IsTuple a its) (fun h i => h.IsTupleIter it a i) where
  val := fun X hK pins σ H s xs I h => by
    subst hK
    obtain ⟨its, rv, p, _⟩ := I.tuple h
    exact ⟨its, rv, p⟩
  inj := fun X hK pins σ H s xs ys I h h2 => by
    subst hK
    exact I.tuple_inj h h2
  dr := fun A hA items => Draws.tuple hA it a hne items
  there := fun h i z => let ⟨o, ho, _, hd⟩ := z; ⟨o, ho, _, hd⟩
  keep := fun h h' i z k => z.at k
  pl := fun h its z => ⟨by simp, let ⟨o, ho, _⟩ := z; ⟨o, ho⟩⟩
theorem src_lst {P : Program} {w : World} {K : PySem.W.Frag} {a it : Addr} (hne : a ≠ it) : EnSrc P w K a it (fun H xs => SqL K H a xs) (fun h its => h.IsList a its) (fun h i => h.IsListIter it a i) where
  val := fun X hK pins σ H s xs I h => by
    subst hK
    obtain ⟨its, rv, p, _⟩ := I.list h
    exact ⟨its, rv, p.isList⟩
  inj := fun X hK pins σ H s xs ys I h h2 => by
    subst hK
    exact I.list_inj h h2
  dr := fun A hA items => Draws.list hA it a hne items
  there := fun h i z => let ⟨o, ho, _, hd⟩ := z; ⟨o, ho, _, hd⟩
  keep := fun h h' i z k => z.at k
  pl := fun h its z => ⟨by simp, let ⟨o, ho, _⟩ := z; ⟨o, ho⟩⟩
/-! the call, on a tuple -/
theorem en_newT (l : Addr) (items : Array Value) (n : Nat) (dct : Option Addr) (sl : Array (Option Value)) :
    Meets (Builtin.«enumerate.__new__» ⟨[.type "enumerate", .ref l], []⟩) (fun _ Rr s => s.heap.get? l = some { cls := .type "tuple", dict := dct, data := .seq items n, slots := sl } ∧
      Rr (.ok (.ret (.ref (s.heap.push { cls := .type "tuple_iterator", data := .fields #[.ref l, .int 0 0] }).objs.size)))
        { s with heap := (s.heap.push { cls := .type "tuple_iterator", data := .fields #[.ref l, .int 0 0] }).push { cls := .type "enumerate", data := .fields #[.none, .bool false, .ref s.heap.objs.size, rawInt 0, .none, .none] } }) :=
  .of_wp fun prog w A Rr s h => by
    obtain ⟨hp, g, d, tk, os⟩ := s; obtain ⟨ht, h⟩ := h
    have hsub := sub_enumerate
    have hL : Heap.IsTuple (Shared.heap ⟨hp, g, d, tk, os⟩) l items := ⟨_, ht, rfl, n, rfl⟩
    wp_walk using AutoSeq1.wpAny_loadPart' ht
    refine wpAny_stack_any fun st => wpAny_pure ?_
    split
    · rename_i c _ _ _ _ _
      cases (c == Value.type "enumerate")
      · wp_walk using AutoSeq1.wpAny_loadPart' ht, wpAny_pyIter_tuple hL
        exact ⟨_, rfl, h⟩
      · wp_walk using AutoSeq1.wpAny_loadPart' ht, wpAny_pyIter_tuple hL
        exact ⟨_, rfl, h⟩
    · wp_walk using AutoSeq1.wpAny_loadPart' ht, wpAny_pyIter_tuple hL
      exact ⟨_, rfl, h⟩
theorem call_enT {prog : Program} {w : World} {A : Around} {E : Value → Shared → Prop} {s : Shared} {l : Addr} {items : Array Value} {Q : Value → Shared → Prop} (hL : s.heap.IsTuple l items)
    (h : ∀ h', IsEnum h' (s.heap.objs.size + 1) s.heap.objs.size 0 .none → h'.IsTupleIter s.heap.objs.size l 0 → h'.objs.size = s.heap.objs.size + 2 →
      (∀ b o, s.heap.get? b = some o → h'.get? b = some o) → Q (.ref (s.heap.objs.size + 1)) { s with heap := h' }) : wpAny (model prog w) A (call (.type "enumerate") [.ref l]) Q E s := by
  obtain ⟨⟨c, dct, dt, sl⟩, hl, hc, n, hd⟩ := hL
  simp only at hc hd
  subst hc hd
  refine callType_new PySem.F.called_enumerate (by decide) (PySem.F.typeCall_enumerate_1 _) (PySem.F.newCall_enumerate_1 _) (fun obj => PySem.F.args_object_init_2 obj _) PySem.F.entry_enumerate_new (en_newT l items n dct sl) ⟨hl, ?_⟩
  have hz : (s.heap.push { cls := .type "tuple_iterator", data := .fields #[.ref l, .int 0 0] }).objs.size = s.heap.objs.size + 1 := Heap.size_push ..
  show _ ∧ _
  rw [hz]
  have he : IsEnum ((s.heap.push { cls := .type "tuple_iterator", data := .fields #[.ref l, .int 0 0] }).push { cls := .type "enumerate", data := .fields #[.none, .bool false, .ref s.heap.objs.size, rawInt 0, .none, .none] }) (s.heap.objs.size + 1) s.heap.objs.size 0 .none := by
    have z := Heap.get?_push_size (s.heap.push { cls := .type "tuple_iterator", data := .fields #[.ref l, .int 0 0] }) (o := { cls := .type "enumerate", data := .fields #[.none, .bool false, .ref s.heap.objs.size, rawInt 0, .none, .none] }) rfl
    rw [hz] at z; exact z
  refine ⟨⟨_, he, rfl⟩, h _ he ⟨_, Heap.get?_push_of_some _ (Heap.get?_push_size _ rfl), rfl, rfl⟩ ?_ fun b o q => Heap.get?_push_of_some _ (Heap.get?_push_of_some _ q)⟩
  rw [Heap.size_push, hz]
section
variable {X : Cx} {K : PySem.W.Frag} {e : Expr} {ta : TA} {p pos tpos : Pos} {elts : List Expr} {kk : Nat}
def iEnL (K : PySem.W.Frag) (ta : TA) : TI := fun σ H Rr => ta σ H fun vs H1 => ∃ a xs, vs = [.ref a] ∧ SqL K H1 a xs ∧ Rr (IteF fun H xs => SqL K H a xs) H1
def iEnT (K : PySem.W.Frag) (ta : TA) : TI := fun σ H Rr => ta σ H fun vs H1 => ∃ a xs, vs = [.ref a] ∧ SqT K H1 a xs ∧ Rr (IteF fun H xs => SqT K H a xs) H1
theorem en_fp {pins : List (Addr × Obj)} {σ : L2.St} {H : Hp} {s : Shared} (I : Inv X pins σ H s) : ∀ b ∈ [s.heap.objs.size + 1, s.heap.objs.size], FpOk X pins H b := fun b hb => by
  have e' : b = s.heap.objs.size + 1 ∨ b = s.heap.objs.size := by simpa using hb
  have hle : s.heap.objs.size ≤ b := by omega
  exact I.fpOk hle (I.hok.fresh hle)
theorem k_enum (hK : X.K = K) (hg : Gl X "enumerate") (hm : X.mg "enumerate" = none) (ha : PA X [e] ta) (hs : starEach [e] X.env = [(false, eval e X.env)] := by rfl) : PI X (.Tuple elts kk tpos) (.Call (.Name "enumerate" p) [e] [] pos) (iEnL K ta) := by
  subst hK
  refine ⟨fun pins s σ H R I h => ?_⟩
  refine Call_ (ld_blt I hg hm boot_enumerate (PyProof.Rows.callWith_type1 (thn (ha.run pos pins s σ H _ I h) fun us s1 hh => ?_) hs rfl))
  obtain ⟨vs, H1, I1, r1, a, xs, rfl, hq, q⟩ := hh
  obtain ⟨u, rfl, ru⟩ := vals1 r1
  cases ru
  obtain ⟨its, rv, p', hz⟩ := I1.list hq
  have hlt : a < s1.heap.objs.size := by obtain ⟨o, ho, _⟩ := p'.isList; exact Heap.lt_size ho
  refine call_enumerate_list p'.isList fun h' he hit hsz hk => wpAny_pyIter_enum he ?_
  have I2 : Inv X pins σ H1 { s1 with heap := h' } := I1.kept (t' := s1.toks) hk
  exact ⟨_, _, _, _, H1, rfl, I2, turn_en (src_lst (Nat.ne_of_lt hlt)) (s1.heap.objs.size + 1), ⟨⟨.none, he⟩, hit, Nat.succ_ne_self _, Ne.symm (Nat.ne_of_lt (Nat.lt_succ_of_lt hlt))⟩, en_fp I1, q⟩
theorem k_enumT (hK : X.K = K) (hg : Gl X "enumerate") (hm : X.mg "enumerate" = none) (ha : PA X [e] ta) (hs : starEach [e] X.env = [(false, eval e X.env)] := by rfl) : PI X (.Tuple elts kk tpos) (.Call (.Name "enumerate" p) [e] [] pos) (iEnT K ta) := by
  subst hK
  refine ⟨fun pins s σ H R I h => ?_⟩
  refine Call_ (ld_blt I hg hm boot_enumerate (PyProof.Rows.callWith_type1 (thn (ha.run pos pins s σ H _ I h) fun us s1 hh => ?_) hs rfl))
  obtain ⟨vs, H1, I1, r1, a, xs, rfl, hq, q⟩ := hh
  obtain ⟨u, rfl, ru⟩ := vals1 r1
  cases ru
  obtain ⟨its, rv, p', hz⟩ := I1.tuple hq
  have hlt : a < s1.heap.objs.size := by obtain ⟨o, ho, _⟩ := p'; exact Heap.lt_size ho
  refine call_enT p' fun h' he hit hsz hk => wpAny_pyIter_enum he ?_
  have I2 : Inv X pins σ H1 { s1 with heap := h' } := I1.kept (t' := s1.toks) hk
  exact ⟨_, _, _, _, H1, rfl, I2, turn_en (src_tup (Nat.ne_of_lt hlt)) (s1.heap.objs.size + 1), ⟨⟨.none, he⟩, hit, Nat.succ_ne_self _, Ne.symm (Nat.ne_of_lt (Nat.lt_succ_of_lt hlt))⟩, en_fp I1, q⟩
/-- a list or a tuple -/
def iEnX (K : PySem.W.Frag) (ta : TA) : TI := fun σ H Rr => iEnL K ta σ H Rr ∨ iEnT K ta σ H Rr
theorem k_enumX (hK : X.K = K) (hg : Gl X "enumerate") (hm : X.mg "enumerate" = none) (ha : PA X [e] ta) (hs : starEach [e] X.env = [(false, eval e X.env)] := by rfl) : PI X (.Tuple elts kk tpos) (.Call (.Name "enumerate" p) [e] [] pos) (iEnX K ta) :=
  ⟨fun pins s σ H R I h => h.elim (fun z => (k_enum hK hg hm ha hs).run pins s σ H R I z) fun z => (k_enumT hK hg hm ha hs).run pins s σ H R I z⟩
end
/-! over data -/
section
variable {B : Bs} {Γ : Gm} {tA : TA}
def enD (ds : List D) : List D := ds.mapIdx fun i d => .tup [.int (i : Int), d]
theorem enD_length (ds : List D) : (enD ds).length = ds.length := by simp [enD]
theorem enD_get {ds : List D} {i : Nat} {d : D} (h : (enD ds)[i]? = some d) : ∃ e, ds[i]? = some e ∧ d = .tup [.int (i : Int), e] := by
  unfold enD at h
  rw [List.getElem?_mapIdx] at h
  cases e : ds[i]? with
  | none => rw [e] at h; cases h
  | some x => rw [e] at h; exact ⟨x, rfl, (Option.some.inj h).symm⟩
theorem walk_en {sq : Hp → List V → Prop} {xs : List V} : Walk (IteF sq) xs.length (fun H => sq H xs) (fun i H v H' => ∃ T x o, v = .ref T ∧ H T = none ∧ o.dict = none ∧ H' = upd H T (.frz o (.tup [.int (i : Nat), x])) ∧ xs[i]? = some x) :=
  ⟨fun i H hi h => ⟨xs, xs[i], h, List.getElem?_eq_getElem hi⟩, fun H h => ⟨xs, h, rfl⟩, fun i H x H' hi h ⟨T, y, o, e1, e2, e3, e4, e5⟩ => ⟨T, y, o, e1, e2, e3, e4, e5 xs h⟩⟩
theorem en_step {ds : List D} {xs : List V} {H1 : Hp} (ry : RA B H1 xs ds) (pp' : Addr → Prop) (i : Nat) (H' : Hp) (x : V) (H2 : Hp) (d : D) (ex : Ex B H1 pp') (s : Sm (B.at pp') H1 H') (hd : (enD ds)[i]? = some d)
    (y : ∃ T z o, x = V.ref T ∧ H' T = none ∧ o.dict = none ∧ H2 = upd H' T (.frz o (.tup [.int (i : Nat), z])) ∧ xs[i]? = some z)   : Same H' H2 ∧ R (B.at pp') H2 x d := by
  obtain ⟨T, z, o, rfl, hT, ho, rfl, hz⟩ := y
  obtain ⟨e, he, rfl⟩ := enD_get hd
  obtain ⟨v, hv, rv⟩ := ry.get he
  rw [hz] at hv
  cases hv
  exact ⟨same_new hT, .tup (PT.new ho) (.cons (.int _) (.cons (((R.pp ex rv).sm s).ext (same_new hT)) .nil))⟩
theorem wg_enL {ds : List D} (h : AG B tA Γ [.lst ds]) : WG B (iEnX B.K tA) Γ (enD ds) := fun σ H r Rq q => .inl (h σ H r _ fun vs H1 e1 r1 => by
  obtain ⟨v, rfl, rv⟩ := r1.one
  obtain ⟨a, xs, rfl, hx, rx⟩ := rv.lst_inv
  refine ⟨a, xs, rfl, SqL.of hx, q _ H1 _ _ e1 (by rw [enD_length, ← rx.length]; exact walk_en) (fun pp' H' ex s => SqL.of (s.off a _ (ex a rv.lst_off (some_ne hx)) hx)) fun pp' i H' x H2 d ex s hd y => en_step rx pp' i H' x H2 d ex s hd y⟩)
theorem wg_enT {ds : List D} (h : AG B tA Γ [.tup ds]) : WG B (iEnX B.K tA) Γ (enD ds) := fun σ H r Rq q => .inr (h σ H r _ fun vs H1 e1 r1 => by
  obtain ⟨v, rfl, rv⟩ := r1.one
  obtain ⟨a, xs, rfl, hx, rx⟩ := rv.tup_inv
  refine ⟨a, xs, rfl, hx.sq, q _ H1 _ _ e1 (by rw [enD_length, ← rx.length]; exact walk_en) (fun pp' H' ex s => (s.pt hx).sq) fun pp' i H' x H2 d ex s hd y => en_step rx pp' i H' x H2 d ex s hd y⟩)
end
end Tl
end
section
set_option autoImplicit false
/-! Fractions as the core's Rat. -/
namespace Tl
theorem q_add (p q : Rat) : Rat.divInt (p.num * q.den + q.num * p.den) ((p.den : Int) * q.den) = p + q := by
  have h := Rat.divInt_add_divInt p.num q.num (d₁ := (p.den : Int)) (d₂ := (q.den : Int)) (by have := p.den_nz; omega) (by have := q.den_nz; omega)
  rw [Rat.num_divInt_den, Rat.num_divInt_den] at h
  exact h.symm
theorem q_addSame (p q : Rat) (e : (p.den : Int) = q.den) : Rat.divInt (p.num + q.num) (p.den : Int) = p + q := by
  have hp : (p.den : Int) ≠ 0 := by have := p.den_nz; omega
  rw [← q_add p q, ← e, ← Int.add_mul, Rat.divInt_mul_right hp]
theorem q_mul (p q : Rat) : Rat.divInt (p.num * q.num) ((p.den : Int) * q.den) = p * q := by
  have h := Rat.divInt_mul_divInt p.num q.num (d₁ := (p.den : Int)) (d₂ := (q.den : Int))
  rw [Rat.num_divInt_den, Rat.num_divInt_den] at h
  exact h.symm
theorem q_lt (p q : Rat) : decide (p.num * (q.den : Int) < q.num * (p.den : Int)) = decide (p < q) := by
  by_cases h : p < q
  · rw [decide_eq_true h, decide_eq_true ((Rat.lt_iff p q).mp h)]
  · rw [decide_eq_false h, decide_eq_false fun z => h ((Rat.lt_iff p q).mpr z)]
theorem q_scale (q : Rat) (L : Int) (hL : L ≠ 0) (h : (q.den : Int) ∣ L) : Rat.divInt (q.num * (L / q.den)) L = q := by
  obtain ⟨k, rfl⟩ := h
  have hd : (q.den : Int) ≠ 0 := by have := q.den_nz; omega
  have hk : k ≠ 0 := fun z => hL (by rw [z]; simp)
  rw [Int.mul_ediv_cancel_left _ hd, Rat.divInt_mul_right hk, Rat.num_divInt_den]
theorem q_sum (L : Int) (hL : L ≠ 0) : ∀ qs : List Rat, (∀ q ∈ qs, (q.den : Int) ∣ L) → Rat.divInt ((qs.map fun q => q.num * (L / (q.den : Int))).sum) L = qs.sum
  | [], _ => by simp [Rat.zero_divInt]
  | q :: qs, h => by
    have ih := q_sum L hL qs fun p hp => h p (List.mem_cons_of_mem _ hp)
    have h1 := q_scale q L hL (h q List.mem_cons_self)
    rw [List.map_cons, List.sum_cons, List.sum_cons]
    have e := Rat.divInt_add_divInt (q.num * (L / (q.den : Int))) ((qs.map fun q => q.num * (L / (q.den : Int))).sum) hL hL
    rw [ih, h1, ← Int.add_mul, Rat.divInt_mul_right hL] at e
    exact e.symm
end Tl
end
section
set_option Elab.async false
set_option linter.all false
set_option autoImplicit false
/-! Towers, plainly: what the program and the law both compute. -/
namespace Tl
abbrev Tw := List (Int × Int)
/-- sorted by key, no key twice -/
def Srt1 (T : Tw) : Prop := (T.map (·.1)).Pairwise (· < ·)
/-- a tower put in at its place -/
def ins : Tw → Int → Int → Tw
  | [], k, h => [(k, h)]
  | p :: T, k, h => if k < p.1 then (k, h) :: p :: T else p :: ins T k h
def del (T : Tw) (k : Int) : Tw := T.filter fun p => decide (p.1 ≠ k)
def hi : Tw → Int
  | [] => 0
  | p :: T => max p.2 (hi T)
theorem ins_perm (k h : Int) : ∀ T : Tw, (ins T k h).Perm (T ++ [(k, h)])
  | [] => List.Perm.refl _
  | p :: T => by
    unfold ins
    split
    · exact (List.perm_append_comm (l₁ := [(k, h)]) (l₂ := p :: T))
    · exact (ins_perm k h T).cons p
theorem srt1_cons {p : Int × Int} {T : Tw} : Srt1 (p :: T) ↔ (∀ q ∈ T, p.1 < q.1) ∧ Srt1 T := by
  unfold Srt1
  rw [List.map_cons, List.pairwise_cons]
  constructor
  · rintro ⟨h1, h2⟩
    exact ⟨fun q hq => h1 _ (List.mem_map.mpr ⟨q, hq, rfl⟩), h2⟩
  · rintro ⟨h1, h2⟩
    refine ⟨fun k hk => ?_, h2⟩
    obtain ⟨q, hq, rfl⟩ := List.mem_map.mp hk
    exact h1 q hq
theorem ins_srt {k h : Int} : ∀ {T : Tw}, Srt1 T → k ∉ T.map (·.1) → Srt1 (ins T k h)
  | [], _, _ => by simp [ins, Srt1]
  | p :: T, s, n => by
    obtain ⟨h1, h2⟩ := srt1_cons.mp s
    simp only [List.map_cons, List.mem_cons, not_or] at n
    unfold ins
    split
    · rename_i hl
      refine srt1_cons.mpr ⟨fun q hq => ?_, s⟩
      rcases List.mem_cons.mp hq with e | hq
      · rw [e]; exact hl
      · exact Int.lt_trans hl (h1 q hq)
    · rename_i hl
      refine srt1_cons.mpr ⟨fun q hq => ?_, ins_srt h2 n.2⟩
      rcases List.mem_append.mp ((ins_perm k h T).mem_iff.mp hq) with hq | hq
      · exact h1 q hq
      · have e : q = (k, h) := by simpa using hq
        rw [e]
        show p.1 < k
        have := n.1
        omega
theorem srt1_filter {T : Tw} (f : Int × Int → Bool) (s : Srt1 T) : Srt1 (T.filter f) := by
  unfold Srt1 at *
  exact List.Pairwise.sublist (List.Sublist.map _ List.filter_sublist) s
theorem del_srt {T : Tw} {k : Int} (s : Srt1 T) : Srt1 (del T k) := srt1_filter _ s
theorem srt1_nodup {T : Tw} (s : Srt1 T) : (T.map (·.1)).Nodup := List.Pairwise.imp (fun h => Int.ne_of_lt h) s
/-- one sorted list only -/
theorem srt1_uniq : ∀ {S T : Tw}, S.Perm T → S.Pairwise (fun x y => x.1 ≤ y.1) → Srt1 T → S = T
  | [], T, p, _, _ => (List.Perm.nil_eq p)
  | x :: S, [], p, _, _ => absurd p.length_eq (by simp)
  | x :: S, y :: T, p, hs, ht => by
    obtain ⟨h1, h2⟩ := srt1_cons.mp ht
    obtain ⟨g1, g2⟩ := List.pairwise_cons.mp hs
    have e : x = y := by
      rcases List.mem_cons.mp (p.mem_iff.mp List.mem_cons_self) with e | hx
      · exact e
      · rcases List.mem_cons.mp (p.mem_iff.mpr List.mem_cons_self) with e | hy
        · exact e.symm
        · have a := h1 x hx
          have b := g1 y hy
          omega
    subst e
    rw [srt1_uniq p.cons_inv g2 h2]
theorem hi_nonneg : ∀ T : Tw, 0 ≤ hi T
  | [] => Int.le_refl 0
  | p :: T => Int.le_trans (hi_nonneg T) (Int.le_max_right _ _)
theorem hi_ge : ∀ {T : Tw} {p : Int × Int}, p ∈ T → p.2 ≤ hi T
  | q :: T, p, h => by
    unfold hi
    rcases List.mem_cons.mp h with e | h
    · rw [e]; exact Int.le_max_left _ _
    · exact Int.le_trans (hi_ge h) (Int.le_max_right _ _)
theorem hi_le {T : Tw} {m : Int} (h0 : 0 ≤ m) (h : ∀ p ∈ T, p.2 ≤ m) : hi T ≤ m := by
  induction T with
  | nil => exact h0
  | cons p T ih =>
    unfold hi
    exact Int.max_le.mpr ⟨h p List.mem_cons_self, ih fun q hq => h q (List.mem_cons_of_mem _ hq)⟩
theorem hi_mem : ∀ {T : Tw}, T ≠ [] → (∀ p ∈ T, 0 ≤ p.2) → ∃ p ∈ T, p.2 = hi T
  | [], h, _ => absurd rfl h
  | p :: T, _, h => by
    unfold hi
    rcases Int.le_total p.2 (hi T) with z | z
    · rw [Int.max_eq_right z]
      by_cases e : T = []
      · subst e
        have := h p List.mem_cons_self
        have z' : p.2 ≤ 0 := z
        exact ⟨p, List.mem_cons_self, by show p.2 = 0; omega⟩
      · obtain ⟨q, hq, e2⟩ := hi_mem e fun r hr => h r (List.mem_cons_of_mem _ hr)
        exact ⟨q, List.mem_cons_of_mem _ hq, e2⟩
    · rw [Int.max_eq_left z]
      exact ⟨p, List.mem_cons_self, rfl⟩
/-! the next place at or past b whose height reaches l -/
def nxtA (l : Int) : Tw → Option Nat
  | [] => none
  | p :: T => if l ≤ p.2 then some 0 else (nxtA l T).map (· + 1)
def nxt (T : Tw) (b : Nat) (l : Int) : Option Nat := (nxtA l (T.drop b)).map (· + b)
theorem nxt_end {T : Tw} {b : Nat} {l : Int} (h : T.length ≤ b) : nxt T b l = none := by
  unfold nxt
  rw [List.drop_eq_nil_iff.mpr h]
  rfl
theorem nxt_step {T : Tw} {b : Nat} {l : Int} {p : Int × Int} (h : T[b]? = some p) : nxt T b l = if l ≤ p.2 then some b else nxt T (b + 1) l := by
  obtain ⟨h1, h2⟩ := List.getElem?_eq_some_iff.mp h
  unfold nxt
  rw [List.drop_eq_getElem_cons h1, h2]
  show (if l ≤ p.2 then some 0 else (nxtA l (T.drop (b + 1))).map (· + 1)).map (· + b) = _
  split
  · simp
  · rw [Option.map_map]
    congr 1
    funext x
    simp only [Function.comp]
    omega
theorem nxt_some {T : Tw} {l : Int} : ∀ {n b i : Nat}, T.length - b = n → nxt T b l = some i → b ≤ i ∧ ∃ p, T[i]? = some p ∧ l ≤ p.2
  | 0, b, i, hn, h => by rw [nxt_end (by omega)] at h; cases h
  | n + 1, b, i, hn, h => by
    have hb : T[b]? = some T[b] := List.getElem?_eq_getElem (by omega)
    rw [nxt_step hb] at h
    split at h
    · rename_i hl
      cases h
      exact ⟨Nat.le_refl _, _, hb, hl⟩
    · obtain ⟨h1, h2⟩ := nxt_some (n := n) (by omega) h
      exact ⟨by omega, h2⟩
/-! shares, limits -/
def lim (c : Bool) (m top : Int) : Int := if c = true then m else min (top + 1) m
def shr (p : Rat) (h e : Nat) : Rat := if h = e then p ^ (h - 1) else p ^ (h - 1) * (1 - p)
def frs (T : Tw) (k : Int) (p : Rat) (c : Bool) (m : Int) : List (Tw × Rat) := (List.range (lim c m (hi T)).toNat).map fun (i : Nat) => (ins T k (1 + (i : Int)), shr p (1 + i) (lim c m (hi T)).toNat)
abbrev Deed := Bool × Int
def aft (T : Tw) (d : Deed) (p : Rat) (c : Bool) (m : Int) : List (Tw × Rat) :=
  if d.1 = true then (if d.2 ∈ T.map (·.1) then [(T, 1)] else frs T d.2 p c m) else [(del T d.2, 1)]
theorem del_none {T : Tw} {k : Int} (h : k ∉ T.map (·.1)) : del T k = T := by
  unfold del
  refine List.filter_eq_self.mpr fun p hp => decide_eq_true fun e => h ?_
  rw [← e]
  exact List.mem_map.mpr ⟨p, hp, rfl⟩
end Tl
end
section
set_option Elab.async false
set_option linter.all false
set_option maxRecDepth 100000
set_option maxHeartbeats 2000000
set_option autoImplicit false
/-! Towers as data; dict, sorted, max of them. -/
namespace Tl
open PySem PySem.Spec PyProof.Rows L2
theorem k_maxDf {X : Cx} {K : PySem.W.Frag} (h : X.K = K) (hc : X.calm = true) : CallRK X (.builtin "max") ["default"] (rMaxDf K) := by subst h; exact cr_maxDf hc
abbrev pr (p : Int × Int) : D := .tup [.int p.1, .int p.2]
abbrev tw (T : Tw) : D := .tup (T.map pr)
section
variable {B : Bs} {Γ : Gm} {ta tb te tk to : TE} {tA tK : TA} {H : Hp}
theorem mergeK_new : ∀ (more acc : List (Key × V)), ((acc ++ more).map (·.1)).Nodup → mergeK acc more = acc ++ more
  | [], acc, _ => (List.append_nil acc).symm
  | p :: more, acc, h => by
    have e : putK acc p.1 p.2 = acc ++ [p] := by
      unfold putK
      rw [if_neg]
      intro z
      obtain ⟨q, hq, e⟩ := List.any_eq_true.mp z
      have e := of_decide_eq_true e
      rw [List.map_append, List.map_cons] at h
      have h2 := (List.nodup_append.mp h).2.2 q.1 (List.mem_map.mpr ⟨q, hq, rfl⟩) p.1 List.mem_cons_self
      exact h2 e
    show mergeK (putK acc p.1 p.2) more = acc ++ p :: more
    rw [e, mergeK_new more (acc ++ [p]) (by rw [List.append_assoc]; exact h), List.append_assoc]
    rfl
theorem pairs_split : ∀ {xs : List V} {T : Tw}, RA B H xs (T.map pr) → ∃ ps : List Addr, xs = ps.map V.ref ∧ Paired (fun p (kv : Key × V) => SqT B.K H p [kV kv.1, kv.2]) ps (T.map fun p => ((Sum.inl p.1 : Key), V.int p.2))
  | _, [], .nil => ⟨[], rfl, .nil⟩
  | _, p :: T, .cons r t => by
    obtain ⟨ps, rfl, h⟩ := pairs_split t
    obtain ⟨a, xs, rfl, hx, rx⟩ := r.tup_inv
    obtain ⟨v, u, rfl, rv, ru⟩ := rx.two
    obtain rfl := rv.int_inv
    obtain rfl := ru.int_inv
    exact ⟨a :: ps, rfl, .cons hx.sq h⟩
theorem cg_dictT {T : Tw} (hn : (T.map (·.1)).Nodup) : CG B (rDictT B.K) [tw T] (.dk (T.map (·.1))) := fun H xs pq r Q q => by
  obtain ⟨v, rfl, rv⟩ := r.one
  obtain ⟨a, ys, rfl, hy, ry⟩ := rv.tup_inv
  obtain ⟨ps, rfl, hp⟩ := pairs_split ry
  refine ⟨a, ps, _, rfl, hy, hp, fun p hp' => q _ _ (same_new hp') (.dk (.inl upd_same) (pq.new hp') ?_)⟩
  rw [mergeK_new _ [] ?_, List.nil_append, List.map_map, List.map_map]
  · rfl
  · rw [List.nil_append, List.map_map]
    have e : (Prod.fst ∘ fun p : Int × Int => ((Sum.inl p.1 : Key), V.int p.2)) = (Sum.inl : Int → Key) ∘ Prod.fst := rfl
    rw [e, ← List.map_map]
    exact List.Pairwise.map _ (fun a b (h : a ≠ b) z => h (Sum.inl.inj z)) hn
theorem zip_of : ∀ {xs : List V} {T : Tw}, RA B H xs (T.map pr) → ∃ zs : List (V × (Int × Int)), zs.map (·.1) = xs ∧ zs.map (·.2) = T ∧ ∀ z ∈ zs, R B H z.1 (pr z.2)
  | _, [], .nil => ⟨[], rfl, rfl, by simp⟩
  | _, p :: T, .cons (v := v) r t => by
    obtain ⟨zs, h1, h2, h3⟩ := zip_of t
    refine ⟨(v, p) :: zs, by rw [List.map_cons, h1], by rw [List.map_cons, h2], fun z hz => ?_⟩
    rcases List.mem_cons.mp hz with e | hz
    · rw [e]; exact r
    · exact h3 z hz
theorem ra_zip : ∀ {zs : List (V × (Int × Int))}, (∀ z ∈ zs, R B H z.1 (pr z.2)) → RA B H (zs.map (·.1)) ((zs.map (·.2)).map pr)
  | [], _ => .nil
  | z :: zs, h => .cons (h z List.mem_cons_self) (ra_zip fun w hw => h w (List.mem_cons_of_mem _ hw))
theorem lex_le {ws : Tw} (h : SrtO.Srtd SrtO.lexB ws) : ws.Pairwise (fun x y => x.1 ≤ y.1) := List.Pairwise.imp (fun {a b} e => by
  have := SrtO.lexB_no.mp e
  omega) h
theorem cg_sortT {S T : Tw} (hp : S.Perm T) (hT : Srt1 T) : CG B (rSortT B.K) [tw S] (.lst (T.map pr)) := fun H xs pq r Q q => by
  obtain ⟨v, rfl, rv⟩ := r.one
  obtain ⟨a, ys, rfl, hy, ry⟩ := rv.tup_inv
  obtain ⟨zs, h1, h2, h3⟩ := zip_of ry
  refine ⟨a, zs, rfl, by rw [h1]; exact hy.sq, fun z hz => ?_, fun ws p hs hw hp' => ?_⟩
  · obtain ⟨t, us, e, ht, rt⟩ := (h3 z hz).tup_inv
    obtain ⟨v, u, rfl, rv, ru⟩ := rt.two
    obtain rfl := rv.int_inv
    obtain rfl := ru.int_inv
    exact ⟨t, e, ht.sq⟩
  · have e : ws.map (·.2) = T := srt1_uniq ((hw.map _).trans (by rw [h2]; exact hp)) (lex_le hs) hT
    refine q _ _ (same_new hp') (.lst upd_same (pq.new hp') ?_)
    rw [← e]
    exact (ra_zip fun w hw' => h3 w (hw.mem_iff.mp hw')).ext (same_new hp')
theorem eg_maxd {ns : List Int} {d m : Int} (ha : AG B tA Γ [.lst (ns.map D.int)]) (hk : AG B tK Γ [.int d]) (h0 : ns = [] → m = d) (h1 : ns ≠ [] → m ∈ ns ∧ ∀ y ∈ ns, y ≤ m) : EG B (tCKw (rMaxDf B.K) tA tK) Γ (.int m) := fun σ H r Q q =>
  ha σ H r _ fun vs H1 e1 r1 => hk σ H1 (r.ext e1) _ fun zs H2 e2 r2 => by
    obtain ⟨v, rfl, rv⟩ := (r1.ext e2).one
    obtain ⟨u, rfl, ru⟩ := r2.one
    obtain rfl := ru.int_inv
    obtain ⟨a, ys, rfl, hy, ry⟩ := rv.lst_inv
    rw [ra_ints ry] at hy
    refine ⟨a, ns, d, rfl, rfl, SqL.of hy, fun z => ?_, fun z m' a1 a2 => ?_⟩
    · rw [← h0 z]
      exact q _ H2 (e1.trans e2) (.int _)
    · obtain ⟨b1, b2⟩ := h1 z
      have e : m' = m := Int.le_antisymm (b2 _ a1) (a2 _ b1)
      subst e
      exact q _ H2 (e1.trans e2) (.int _)
theorem eg_chain {r1 r2 : R2} {tc : TE} {x y z : D} {k1 k2 : Bool} (ha : EG B ta Γ x) (hb : EG B tb Γ y) (hc : EG B tc Γ z) (h1 : OG B r1 x y (.bl k1)) (h2 : OG B r2 y z (.bl k2)) : EG B (tChain r1 r2 ta tb tc) Γ (.bl (k1 && k2)) := fun σ H r Q q =>
  ha σ H r _ fun v1 H1 e1 ra => hb σ H1 (r.ext e1) _ fun v2 H2 e2 rb => h1 H2 v1 v2 (r.ext (e1.trans e2)).pp (ra.ext e2) rb _ fun v3 H3 e3 r3 => ⟨k1, r3.bl_inv, by
    cases k1 with
    | false => exact q _ H3 (e1.trans (e2.trans e3)) (.bl false)
    | true =>
      rw [if_pos rfl]
      exact hc σ H3 (r.ext (e1.trans (e2.trans e3))) _ fun v4 H4 e4 rc => h2 H4 v2 v4 (r.ext (e1.trans (e2.trans (e3.trans e4)))).pp (rb.ext (e3.trans e4)) rc _ fun v5 H5 e5 r5 => q _ H5 (e1.trans (e2.trans (e3.trans (e4.trans e5)))) r5⟩
theorem og_lt {i j : Int} : OG B (rI0 fun i j => .bl (decide (i < j))) (.int i) (.int j) (.bl (decide (i < j))) := og_I0 fun H => .bl _
theorem og_le {i j : Int} : OG B (rI0 fun i j => .bl (decide (i ≤ j))) (.int i) (.int j) (.bl (decide (i ≤ j))) := og_I0 fun H => .bl _
theorem ra_strs : ∀ {ns : List Str} {xs : List V}, RA B H xs (ns.map D.str) → xs = ns.map V.str
  | [], _, .nil => rfl
  | n :: ns, _, .cons r t => by rw [r.str_inv, ra_strs t]; rfl
theorem eg_count {ns : List Str} {k : Str} (ho : EG B to Γ (.lst (ns.map D.str))) (ha : AG B tA Γ [.str k]) : EG B (tBM B.K "list" (rCntS B.K) to tA) Γ (.int (ns.count k : Nat)) := fun σ H r Q q =>
  ho σ H r _ fun v H1 e1 rv => by
    obtain ⟨a, ys, rfl, hy, ry⟩ := rv.lst_inv
    refine ⟨.inl ⟨rfl, _, SqL.of hy⟩, ?_⟩
    refine ha σ H1 (r.ext e1) _ fun zs H2 e2 r2 => ?_
    obtain ⟨u, rfl, ru⟩ := r2.one
    obtain rfl := ru.str_inv
    rw [ra_strs ry] at hy
    exact ⟨a, ns, k, rfl, rfl, SqL.of (e2 _ _ hy), q _ H2 (e1.trans e2) (.int _)⟩
end
end Tl
end
section
set_option Elab.async false
set_option linter.all false
set_option maxRecDepth 100000
set_option maxHeartbeats 2000000
set_option autoImplicit false
/-! One object is being changed: statements. Comprehensions whose elements are lists. -/
namespace Tl
open PySem PySem.Spec PyProof.Rows L2
/-- all but the object at p stays -/
structure Sp (p : Addr) (H H' : Hp) : Prop where
  off : ∀ a u, a ≠ p → H a = some u → H' a = some u
  fz : ∀ a o u, H a = some (.frz o u) → H' a = some (.frz o u)
  th : ∀ a, H a ≠ none → H' a ≠ none
section
variable {p : Addr} {H H1 H2 H' : Hp} {B : Bs}
theorem Sp.of (e : Same H H') : Sp p H H' := ⟨fun a u _ h => e a u h, fun a o u h => e a _ h, fun a h z => by
  cases q : H a with
  | none => exact h q
  | some u => rw [e a u q] at z; cases z⟩
theorem Sp.refl (H : Hp) : Sp p H H := .of (Same.refl H)
theorem Sp.trans (a : Sp p H H1) (b : Sp p H1 H2) : Sp p H H2 := ⟨fun x u n h => b.off x u n (a.off x u n h), fun x o u h => b.fz x o u (a.fz x o u h), fun x h => b.th x (a.th x h)⟩
theorem Sp.sm (s : Sp p H H') (h : B.pp p) : Sm B H H' := ⟨fun a u n e => s.off a u (fun z => n (z ▸ h)) e, s.fz, s.th⟩
/-- p is written; it was no frozen thing -/
theorem Sp.upd {u o : HO} (h : H p = some u) (hf : ∀ ob v, u ≠ .frz ob v) : Sp p H (upd H p o) := ⟨fun a x n e => by rw [upd_ne n]; exact e, fun a ob x e => by
  rw [upd_ne (fun z => by rw [z, h] at e; exact hf _ _ (Option.some.inj e))]
  exact e, fun a n => by
  by_cases z : a = p
  · rw [z, upd_same]; exact fun q => nomatch q
  · rw [upd_ne z]; exact n⟩
/-- p was not there -/
theorem Sp.same (s : Sp p H H') (h : H p = none) : Same H H' := fun a u e => s.off a u (fun z => by rw [z, h] at e; cases e) e
theorem Sp.same_from (e : Same H H1) (s : Sp p H1 H') (h : H p = none) : Same H H' := fun a u q => s.off a u (fun z => by rw [z, h] at q; cases q) (e a u q)
end
inductive OutI (ι : Type) where
  | nx (Γ : Gm) (m : ι)
  | rt (d : D) (m : ι)
  | bk (Γ : Gm) (m : ι)
  | ct (Γ : Gm) (m : ι)
section
variable (B : Bs) (p : Addr) (Rr : Hp → V → D → Prop) {ι : Type} (J : ι → Hp → Prop)
def SI (ts : TS) (Γ : Gm) (m : ι) (O : OutI ι → Prop) : Prop := ∀ (σ : L2.St) (H : Hp) (E : Ends), Rep B H σ Γ → J m H →
  (∀ σ' H' Γ' m', Sp p H H' → J m' H' → Rep B H' σ' Γ' → O (.nx Γ' m') → E.nx σ' H') → (∀ v H' d m', Sp p H H' → J m' H' → Rr H' v d → O (.rt d m') → E.rt v H') →
  (∀ σ' H' Γ' m', Sp p H H' → J m' H' → Rep B H' σ' Γ' → O (.bk Γ' m') → E.bk σ' H') → (∀ σ' H' Γ' m', Sp p H H' → J m' H' → Rep B H' σ' Γ' → O (.ct Γ' m') → E.ct σ' H') → ts E σ H
def EI (te : TE) (Γ : Gm) (m : ι) (O : D → ι → Prop) : Prop := ∀ (σ : L2.St) (H : Hp), Rep B H σ Γ → J m H → ∀ Q : VK, (∀ v H' d m', Sp p H H' → J m' H' → R B H' v d → O d m' → Q v H') → te σ H Q
def AI (ta : TA) (Γ : Gm) (m : ι) (O : List D → ι → Prop) : Prop := ∀ (σ : L2.St) (H : Hp), Rep B H σ Γ → J m H → ∀ Q : List V → Hp → Prop, (∀ vs H' ds m', Sp p H H' → J m' H' → RA B H' vs ds → O ds m' → Q vs H') → ta σ H Q
/-- it stands when more is there -/
def Stb : Prop := ∀ m H H', Same H H' → J m H → J m H'
end
def liftO {ι : Type} (m : ι) (O : OutI ι → Prop) : Out → Prop
  | .nx Γ => O (.nx Γ m)
  | .rt d => O (.rt d m)
  | .bk Γ => O (.bk Γ m)
  | .ct Γ => O (.ct Γ m)
def thenI {ι : Type} (k : Gm → ι → Prop) (O : OutI ι → Prop) : OutI ι → Prop
  | .nx Γ m => k Γ m
  | .rt d m => O (.rt d m)
  | .bk Γ m => O (.bk Γ m)
  | .ct Γ m => O (.ct Γ m)
def loopI {ι : Type} (k : Gm → ι → Prop) (O : OutI ι → Prop) : OutI ι → Prop
  | .nx Γ m => k Γ m
  | .rt d m => O (.rt d m)
  | .bk Γ m => O (.nx Γ m)
  | .ct Γ m => k Γ m
section
variable {B : Bs} {p : Addr} {Rr : Hp → V → D → Prop} {ι : Type} {J : ι → Hp → Prop} {Γ : Gm} {m : ι} {t u : TS} {O : OutI ι → Prop} {te : TE} {ta tb : TA}
theorem si_mono {O' : OutI ι → Prop} (h : SI B p Rr J t Γ m O) (k : ∀ o, O o → O' o) : SI B p Rr J t Γ m O' := fun σ H E r j n q b c =>
  h σ H E r j (fun σ' H' Γ' m' e j' r' o => n σ' H' Γ' m' e j' r' (k _ o)) (fun v H' d m' e j' r' o => q v H' d m' e j' r' (k _ o)) (fun σ' H' Γ' m' e j' r' o => b σ' H' Γ' m' e j' r' (k _ o)) fun σ' H' Γ' m' e j' r' o => c σ' H' Γ' m' e j' r' (k _ o)
/-- what changes nothing -/
theorem si_sg (hJ : Stb J) (hR : ∀ H v d, R B H v d → Rr H v d) (h : SG B t Γ (liftO m O)) : SI B p Rr J t Γ m O := fun σ H E r j n q b c =>
  h σ H E r (fun σ' H' Γ' e r' o => n σ' H' Γ' m (.of e) (hJ m H H' e j) r' o) (fun v H' d e r' o => q v H' d m (.of e) (hJ m H H' e j) (hR _ _ _ r') o) (fun σ' H' Γ' e r' o => b σ' H' Γ' m (.of e) (hJ m H H' e j) r' o) fun σ' H' Γ' e r' o => c σ' H' Γ' m (.of e) (hJ m H H' e j) r' o
theorem si_seq (h : SI B p Rr J t Γ m (thenI (fun Γ' m' => SI B p Rr J u Γ' m' O) O)) : SI B p Rr J (tSeq t u) Γ m O := fun σ H E r j n q b c =>
  h σ H { E with nx := u E } r j
    (fun σ' H' Γ' m' e j' r' o => o σ' H' E r' j' (fun σ2 H2 Γ2 m2 e2 j2 r2 o2 => n σ2 H2 Γ2 m2 (e.trans e2) j2 r2 o2) (fun v H2 d m2 e2 j2 r2 o2 => q v H2 d m2 (e.trans e2) j2 r2 o2) (fun σ2 H2 Γ2 m2 e2 j2 r2 o2 => b σ2 H2 Γ2 m2 (e.trans e2) j2 r2 o2) fun σ2 H2 Γ2 m2 e2 j2 r2 o2 => c σ2 H2 Γ2 m2 (e.trans e2) j2 r2 o2) q b c
theorem si_if (hJ : Stb J) {tt : TT} {k : Bool} (h : TGd B tt Γ k) (h1 : k = true → SI B p Rr J t Γ m O) (h2 : k = false → SI B p Rr J u Γ m O) : SI B p Rr J (tIfS tt t u) Γ m O := fun σ H E r j n q b c => h σ H r _ fun H1 e1 => by
  have j1 := hJ m H H1 e1 j
  cases k with
  | true => exact h1 rfl σ H1 E (r.ext e1) j1 (fun σ' H' Γ' m' e j' r' o => n σ' H' Γ' m' ((Sp.of e1).trans e) j' r' o) (fun v H' d m' e j' r' o => q v H' d m' ((Sp.of e1).trans e) j' r' o) (fun σ' H' Γ' m' e j' r' o => b σ' H' Γ' m' ((Sp.of e1).trans e) j' r' o) fun σ' H' Γ' m' e j' r' o => c σ' H' Γ' m' ((Sp.of e1).trans e) j' r' o
  | false => exact h2 rfl σ H1 E (r.ext e1) j1 (fun σ' H' Γ' m' e j' r' o => n σ' H' Γ' m' ((Sp.of e1).trans e) j' r' o) (fun v H' d m' e j' r' o => q v H' d m' ((Sp.of e1).trans e) j' r' o) (fun σ' H' Γ' m' e j' r' o => b σ' H' Γ' m' ((Sp.of e1).trans e) j' r' o) fun σ' H' Γ' m' e j' r' o => c σ' H' Γ' m' ((Sp.of e1).trans e) j' r' o
theorem si_while (hJ : Stb J) {tt : TT} (I : Nat → Gm → ι → Prop) (n0 : Nat) (h0 : I n0 Γ m)
    (hs : ∀ (n : Nat) (Γ' : Gm) (m' : ι), I n Γ' m' → ∃ b, TGd B tt Γ' b ∧ (b = true → SI B p Rr J t Γ' m' (loopI (fun Γ2 m2 => ∃ n', n' < n ∧ I n' Γ2 m2) O)) ∧ (b = false → O (.nx Γ' m'))) : SI B p Rr J (tWhile tt t) Γ m O := fun σ H E r j n q b c => by
  refine ⟨fun k σ' H' => ∃ Γ' m', Sp p H H' ∧ J m' H' ∧ Rep B H' σ' Γ' ∧ I k Γ' m', ⟨n0, Γ, m, Sp.refl H, j, r, h0⟩, fun k σ' H' ⟨Γ', m', s, j', r', hi⟩ => ?_⟩
  obtain ⟨y, hy, h1, h2⟩ := hs k Γ' m' hi
  refine hy σ' H' r' _ fun H1 e1 => ?_
  have j1 := hJ m' H' H1 e1 j'
  cases y with
  | true =>
    refine ⟨fun σ2 H2 => ∃ k', k' < k ∧ ∃ Γ2 m2, Sp p H H2 ∧ J m2 H2 ∧ Rep B H2 σ2 Γ2 ∧ I k' Γ2 m2, fun σ2 H2 h => h, ?_⟩
    exact h1 rfl σ' H1 _ (r'.ext e1) j1 (fun σ3 H3 Γ3 m3 s3 j3 r3 ⟨k', hm, o⟩ => ⟨k', hm, Γ3, m3, s.trans ((Sp.of e1).trans s3), j3, r3, o⟩) (fun v H3 d m3 s3 j3 r3 o => q v H3 d m3 (s.trans ((Sp.of e1).trans s3)) j3 r3 o)
      (fun σ3 H3 Γ3 m3 s3 j3 r3 o => n σ3 H3 Γ3 m3 (s.trans ((Sp.of e1).trans s3)) j3 r3 o) (fun σ3 H3 Γ3 m3 s3 j3 r3 ⟨k', hm, o⟩ => ⟨k', hm, Γ3, m3, s.trans ((Sp.of e1).trans s3), j3, r3, o⟩)
  | false => exact n σ' H1 Γ' m' (s.trans (.of e1)) j1 (r'.ext e1) (h2 rfl)
theorem si_for (hJ : Stb J) (hp : B.pp p) {wi : TI} {g : TG} {ds : List D} (hw : WG B wi Γ ds) (I : Nat → Gm → ι → Prop) (h0 : I 0 Γ m)
    (hs : ∀ (i : Nat) (d : D) (Γ' : Gm) (m' : ι), ds[i]? = some d → I i Γ' m' → ∃ js Γ1, GG B g js d Γ' Γ1 ∧ SI B p Rr J t Γ1 m' (loopI (I (i + 1)) O)) (hd : ∀ Γ' m', I ds.length Γ' m' → O (.nx Γ' m')) : SI B p Rr J (tFor wi g t) Γ m O := fun σ H E r j n q b c =>
  hw σ H r _ fun J' H1 G Y e1 w hG hY => for_it w (fun i σ' H' => ∃ Γ' m', Sp p H1 H' ∧ J m' H' ∧ Rep B H' σ' Γ' ∧ I i Γ' m') ⟨Γ, m, Sp.refl H1, hJ m H H1 e1 j, r.ext e1, h0⟩ (fun i σ' H' hi ⟨Γ', m', s, j', r', hi'⟩ => hG B.pp H' (Ex.refl B H1) (s.sm hp))
    (fun i x σ' H' H2 hi ⟨Γ', m', s, j', r', hi'⟩ y => by
      obtain ⟨d, hd'⟩ : ∃ d, ds[i]? = some d := ⟨ds[i], List.getElem?_eq_getElem hi⟩
      obtain ⟨s2, rx⟩ := hY B.pp i H' x H2 d (Ex.refl B H1) (s.sm hp) hd' y
      obtain ⟨js, Γ1, hg, hb⟩ := hs i d Γ' m' hd' hi'
      refine hg σ' H2 x (r'.ext s2) rx _ fun σ2 r2 _ => ?_
      exact hb σ2 H2 _ r2 (hJ m' H' H2 s2 j') (fun σ3 H3 Γ3 m3 s3 j3 r3 o => ⟨Γ3, m3, s.trans ((Sp.of s2).trans s3), j3, r3, o⟩) (fun v H3 d m3 s3 j3 r3 o => q v H3 d m3 ((Sp.of e1).trans (s.trans ((Sp.of s2).trans s3))) j3 r3 o)
        (fun σ3 H3 Γ3 m3 s3 j3 r3 o => n σ3 H3 Γ3 m3 ((Sp.of e1).trans (s.trans ((Sp.of s2).trans s3))) j3 r3 o) (fun σ3 H3 Γ3 m3 s3 j3 r3 o => ⟨Γ3, m3, s.trans ((Sp.of s2).trans s3), j3, r3, o⟩))
    (fun σ' H' ⟨Γ', m', s, j', r', hi'⟩ => n σ' H' Γ' m' ((Sp.of e1).trans s) j' r' (hd Γ' m' hi'))
/-! expressions that change it -/
theorem ei_of {d : D} (hJ : Stb J) (h : EG B te Γ d) : EI B p J te Γ m (fun d' m' => d' = d ∧ m' = m) := fun σ H r j Q q => h σ H r Q fun v H' e r' => q v H' d m (.of e) (hJ m H H' e j) r' ⟨rfl, rfl⟩
theorem ei_mono {O O' : D → ι → Prop} (h : EI B p J te Γ m O) (k : ∀ d m, O d m → O' d m) : EI B p J te Γ m O' := fun σ H r j Q q => h σ H r j Q fun v H' d m' e j' r' o => q v H' d m' e j' r' (k _ _ o)
theorem ai_nil {O : List D → ι → Prop} (h : O [] m) : AI B p J tNil Γ m O := fun σ H r j Q q => q [] H [] m (Sp.refl H) j .nil h
theorem ai_cons {O : List D → ι → Prop} (hp : B.pp p) (h : EI B p J te Γ m (fun d m' => AI B p J tb Γ m' (fun ds m2 => O (d :: ds) m2))) : AI B p J (tCons te tb) Γ m O := fun σ H r j Q q =>
  h σ H r j _ fun v H1 d m1 s1 j1 r1 o1 => o1 σ H1 (r.sm (s1.sm hp)) j1 _ fun vs H2 ds m2 s2 j2 r2 o2 => q _ H2 _ m2 (s1.trans s2) j2 (.cons (r1.sm (s2.sm hp)) r2) o2
theorem ai_of {ds : List D} (hJ : Stb J) (h : AG B ta Γ ds) : AI B p J ta Γ m (fun ds' m' => ds' = ds ∧ m' = m) := fun σ H r j Q q => h σ H r Q fun v H' e r' => q v H' ds m (.of e) (hJ m H H' e j) r' ⟨rfl, rfl⟩
theorem ei_op {r : R2} {tb : TE} {O : D → ι → Prop} (hJ : Stb J) (hp : B.pp p) (ha : EI B p J te Γ m (fun d m1 => EI B p J tb Γ m1 (fun e m2 => ∃ f, OG B r d e f ∧ O f m2))) : EI B p J (tOp r te tb) Γ m O := fun σ H w j Q q =>
  ha σ H w j _ fun x H1 d m1 s1 j1 r1 o1 => o1 σ H1 (w.sm (s1.sm hp)) j1 _ fun y H2 e m2 s2 j2 r2 ⟨f, hf, o⟩ => hf H2 x y ((w.sm (s1.sm hp)).sm (s2.sm hp)).pp (r1.sm (s2.sm hp)) r2 Q fun z H3 e3 r3 => q z H3 f m2 (s1.trans (s2.trans (.of e3))) (hJ m2 _ _ e3 j2) r3 o
theorem ei_call {S : List D → D → Prop} {E : XK} {O : D → ι → Prop} (hJ : Stb J) (hp : B.pp p) (h : AI B p J ta Γ m (fun ds m' => ∃ d, S ds d ∧ O d m')) : EI B p J (tCall (PSp B.P B.w B.K S) [] E ta) Γ m O := fun σ H w j Q q =>
  h σ H w j _ fun vs H1 ds m1 s1 j1 r1 ⟨d, hs, o⟩ => ⟨B.pp, ds, d, (w.sm (s1.sm hp)).pp, by rw [List.append_nil]; exact r1, hs, fun v H2 e2 r2 => q v H2 d m1 (s1.trans (.of e2)) (hJ m1 _ _ e2 j1) r2 o⟩
theorem ei_bi {r : List V → Hp → VK → Prop} {O : D → ι → Prop} (hJ : Stb J) (hp : B.pp p) (h : AI B p J ta Γ m (fun ds m' => ∃ f, CG B r ds f ∧ O f m')) : EI B p J (tCB r ta) Γ m O := fun σ H w j Q q =>
  h σ H w j _ fun vs H1 ds m1 s1 j1 r1 ⟨f, hf, o⟩ => hf H1 vs (w.sm (s1.sm hp)).pp r1 Q fun v H2 e2 r2 => q v H2 f m1 (s1.trans (.of e2)) (hJ m1 _ _ e2 j1) r2 o
theorem ei_tup {O : D → ι → Prop} (hJ : Stb J) (hp : B.pp p) (h : AI B p J ta Γ m (fun ds m' => ds.length ≤ 1000 ∧ O (.tup ds) m')) : EI B p J (tTupF ta) Γ m O := fun σ H w j Q q =>
  h σ H w j _ fun xs H1 ds m1 s1 j1 r1 ⟨hl, o⟩ => ⟨by rw [r1.length]; exact Nat.le_of_lt (small1000 hl), fun a ob ha ho => q _ _ _ m1 (s1.trans (.of (same_new ha))) (hJ m1 _ _ (same_new ha) j1) (.tup (PT.new ho) (r1.ext (same_new ha))) o⟩
theorem ei_lst {O : D → ι → Prop} (hJ : Stb J) (hp : B.pp p) (h : AI B p J ta Γ m (fun ds m' => ds.length ≤ 1000 ∧ O (.lst ds) m')) : EI B p J (tLst ta) Γ m O := fun σ H w j Q q =>
  h σ H w j _ fun xs H1 ds m1 s1 j1 r1 ⟨hl, o⟩ => ⟨by rw [r1.length]; exact Nat.le_of_lt (small1000 hl), fun a ha => q _ _ _ m1 (s1.trans (.of (same_new ha))) (hJ m1 _ _ (same_new ha) j1) (.lst upd_same ((w.sm (s1.sm hp)).pp.new ha) (r1.ext (same_new ha))) o⟩
theorem si_asg {i : Nat} (hp : B.pp p) (h : EI B p J te Γ m (fun d m' => O (.nx (Γ.set i (some d)) m'))) : SI B p Rr J (tAsg te (gName i)) Γ m O := fun σ H E r j n q b c =>
  h σ H r j _ fun v H1 d m1 s1 j1 r1 o => n _ H1 _ m1 s1 j1 ((r.sm (s1.sm hp)).set i r1) o
theorem si_par {i k : Nat} (hp : B.pp p) (h : AI B p J ta Γ m (fun ds m' => ∃ d e, ds = [d, e] ∧ O (.nx ((Γ.set i (some d)).set k (some e)) m'))) : SI B p Rr J (tPar i k ta) Γ m O := fun σ H E r j n q b c =>
  h σ H r j _ fun vs H1 ds m1 s1 j1 r1 ⟨d, e, hd, o⟩ => by
    subst hd
    obtain ⟨v, w, rfl, rv, rw'⟩ := r1.two
    exact ⟨v, w, rfl, n _ H1 _ m1 s1 j1 (((r.sm (s1.sm hp)).set i rv).set k rw') o⟩
theorem si_ret (hR : ∀ H v d, R B H v d → Rr H v d) (h : EI B p J te Γ m (fun d m' => O (.rt d m'))) : SI B p Rr J (tRet te) Γ m O := fun σ H E r j n q b c => h σ H r j _ fun v H1 d m1 s1 j1 r1 o => q v H1 d m1 s1 j1 (hR _ _ _ r1) o
end
/-! a list of one's own -/
theorem ex_opn {B : Bs} {H : Hp} {p : Addr} (h : H p = none) : Ex B H (B.op p).pp := fun a n e z => z.elim n fun q => e (q ▸ h)
section
variable {B : Bs} {p : Addr} {Γ : Gm} {t u : TS} {te : TE}
def LJ (B : Bs) (p : Addr) (ds : List D) (H : Hp) : Prop := ∃ xs, H p = some (.lst xs) ∧ RA (B.op p) H xs ds
theorem lj_stb : Stb (LJ B p) := fun m H H' e ⟨xs, h, r⟩ => ⟨xs, e _ _ h, r.ext e⟩
theorem op_pp : (B.op p).pp p := .inr rfl
theorem Rep.opn {H : Hp} {σ : L2.St} (r : Rep B H σ Γ) {H' : Hp} (h : H p = none) (e : Same H H') (h' : H' p ≠ none) : Rep (B.op p) H' σ Γ :=
  ⟨fun a z => z.elim (fun q => (r.pp.ext e) a q) fun q => by rw [q]; exact h', r.len, fun i d q => let ⟨v, hv, rv⟩ := r.at_ i d q; ⟨v, hv, (R.opn rv h).ext e⟩⟩
theorem Rep.shut {H : Hp} {σ : L2.St} (r : Rep (B.op p) H σ Γ) : Rep B H σ Γ := ⟨fun a z => r.pp a (.inl z), r.len, fun i d q => let ⟨v, hv, rv⟩ := r.at_ i d q; ⟨v, hv, rv.shut⟩⟩
/-- it as data again -/
theorem LJ.data {H : Hp} {ds : List D} (hn : ¬ B.pp p) (j : LJ B p ds H) : R B H (.ref p) (.lst ds) := let ⟨xs, h, r⟩ := j; .lst h hn r.shut
abbrev raw (p : Addr) : D := .raw (.ref p)
/-- xs = []; then what fills it; then the rest -/
theorem sg_open {i : Nat} {O : Out → Prop} (h : ∀ p, ¬ B.pp p → SI (B.op p) p (R B) (LJ B p) t (Γ.set i (some (raw p))) [] (fun o => match o with
    | .nx Γ' ds => SG B u (Γ'.set i (some (.lst ds))) O ∧ Γ'[i]? = some (some (raw p))
    | .rt d _ => O (.rt d)
    | .bk _ _ => False
    | .ct _ _ => False)) : SG B (tSeq (tAsg (tLst tNil) (gName i)) (tSeq t u)) Γ O := fun σ H E r n q b c => ⟨by show 0 ≤ sizeLine; omega, fun p hp => by
  have hn := r.pp.new hp
  have e0 : Same H (upd H p (.lst [])) := same_new hp
  have r0 : Rep (B.op p) (upd H p (.lst [])) (σ.set i (some (.ref p))) (Γ.set i (some (raw p))) := (r.opn hp e0 (by rw [upd_same]; exact fun z => nomatch z)).set i (.raw _)
  refine h p hn _ _ { E with nx := u E } r0 ⟨[], upd_same, .nil⟩ (fun σ' H' Γ' ds s j r' o => ?_) (fun v H' d ds s j r' o => q v H' d (Sp.same_from e0 s hp) r' o) (fun _ _ _ _ _ _ _ o => o.elim) (fun _ _ _ _ _ _ _ o => o.elim)
  obtain ⟨o1, o2⟩ := o
  have s0 := Sp.same_from e0 s hp
  obtain ⟨v, hv, rv⟩ := r'.at_ i _ o2
  obtain rfl := rv.raw_inv
  have r2 : Rep B H' σ' (Γ'.set i (some (.lst ds))) := by
    have z := (r'.shut).set i (j.data hn)
    have e : σ'.set i (some (.ref p)) = σ' := by
      obtain ⟨h1, h2⟩ := List.getElem?_eq_some_iff.mp hv
      rw [← h2]
      exact List.set_getElem_self h1
    rw [e] at z
    exact z
  exact o1 σ' H' E r2 (fun σ2 H2 Γ2 e2 r2 o2 => n σ2 H2 Γ2 (s0.trans e2) r2 o2) (fun v H2 d e2 r2 o2 => q v H2 d (s0.trans e2) r2 o2) (fun σ2 H2 Γ2 e2 r2 o2 => b σ2 H2 Γ2 (s0.trans e2) r2 o2) fun σ2 H2 Γ2 e2 r2 o2 => c σ2 H2 Γ2 (s0.trans e2) r2 o2⟩
/-- x.append(e) -/
theorem si_append {i : Nat} {d : D} {ds : List D} {Rr : Hp → V → D → Prop} {O : OutI (List D) → Prop} (hi : Γ[i]? = some (some (raw p))) (h : EG (B.op p) te Γ d) (hl : ds.length < 100000) (o : O (.nx Γ (ds ++ [d]))) :
    SI (B.op p) p Rr (LJ B p) (tDrop (tBM B.K "list" rAppend (tVar i) (tCons te tNil))) Γ ds O := fun σ H E r j n q b c => by
  obtain ⟨v, hv, rv⟩ := r.at_ i _ hi
  obtain rfl := rv.raw_inv
  obtain ⟨xs, hx, rx⟩ := j
  refine ⟨_, hv, .inl ⟨rfl, _, SqL.of hx⟩, h σ H r _ fun y H1 e1 r1 => ⟨p, xs, y, rfl, rfl, e1 _ _ hx, by rw [rx.length, sizeLine_eq]; omega, ?_⟩⟩
  have s1 : Sp p H1 (upd H1 p (.lst (xs ++ [y]))) := Sp.upd (e1 _ _ hx) fun _ _ z => nomatch z
  exact n σ _ Γ _ ((Sp.of e1).trans s1) ⟨_, upd_same, ((rx.ext e1).append (.cons r1 .nil)).sm (s1.sm op_pp)⟩ ((r.ext e1).sm (s1.sm op_pp)) o
/-- x.extend(e), e a new list -/
theorem si_extend {i : Nat} {es ds : List D} {Rr : Hp → V → D → Prop} {O : OutI (List D) → Prop} (hi : Γ[i]? = some (some (raw p))) (h : EG (B.op p) te Γ (.lst es)) (hl : ds.length + es.length ≤ 100000) (o : O (.nx Γ (ds ++ es))) :
    SI (B.op p) p Rr (LJ B p) (tDrop (tBM B.K "list" rExtend (tVar i) (tCons te tNil))) Γ ds O := fun σ H E r j n q b c => by
  obtain ⟨v, hv, rv⟩ := r.at_ i _ hi
  obtain rfl := rv.raw_inv
  obtain ⟨xs, hx, rx⟩ := j
  refine ⟨_, hv, .inl ⟨rfl, _, SqL.of hx⟩, h σ H r _ fun y H1 e1 r1 => ?_⟩
  obtain ⟨a, ys, rfl, hy, ry⟩ := r1.lst_inv
  refine ⟨p, a, xs, ys, rfl, rfl, e1 _ _ hx, hy, by rw [rx.length, ry.length, sizeLine_eq]; omega, ?_⟩
  have s1 : Sp p H1 (upd H1 p (.lst (xs ++ ys))) := Sp.upd (e1 _ _ hx) fun _ _ z => nomatch z
  exact n σ _ Γ _ ((Sp.of e1).trans s1) ⟨_, upd_same, ((rx.ext e1).append ry).sm (s1.sm op_pp)⟩ ((r.ext e1).sm (s1.sm op_pp)) o
/-! comprehensions, the elements whatever they are -/
theorem eg_lcN {α : Type} {wi : TI} {g : TG} {tt : TT} {vs : List Nat} {xs : List α} {ee : α → D} {js : List Nat} (f : α → Bool) (fn : α → D) (hw : WG B wi Γ (xs.map ee)) (hj : ∀ j ∈ js, j ∈ vs) (hl : xs.length ≤ 100000)
    (hs : ∀ (p : Addr), ∀ x ∈ xs, ∃ Γ1, GG (B.op p) g js (ee x) (wipeG Γ vs) Γ1 ∧ TGd (B.op p) tt Γ1 (f x) ∧ (f x = true → EG (B.op p) te Γ1 (fn x))) : EG B (tLc wi g tt te vs) Γ (.lst ((xs.filter f).map fn)) := fun σ H r Q q =>
  hw σ H r _ fun J H1 G Y e1 w hG hY Dd hD => by
    rw [List.length_map] at w
    have hn := (r.ext e1).pp.new hD
    have e0 : Same H1 (upd H1 Dd (.lst [])) := same_new hD
    refine lc_it w (fun i H' => Sp Dd (upd H1 Dd (.lst [])) H' ∧ LJ B Dd (((xs.take i).filter f).map fn) H') ⟨Sp.refl _, [], upd_same, by rw [List.take_zero]; exact .nil⟩
      (fun i H' hi h => hG _ H' (ex_opn hD) (Sm.trans (Sm.of e0) (h.1.sm op_pp))) ?_ ?_
    · rintro i x H' H2 hi ⟨h2, acc, h1, h3⟩ y
      have hx : xs[i]? = some xs[i] := List.getElem?_eq_getElem hi
      have hd' : (xs.map ee)[i]? = some (ee xs[i]) := by rw [List.getElem?_map, hx]; rfl
      obtain ⟨s2, rx⟩ := hY _ i H' x H2 _ (ex_opn hD) (Sm.trans (Sm.of e0) (h2.sm op_pp)) hd' y
      obtain ⟨Γ1, hg, ht, he⟩ := hs Dd xs[i] (List.getElem_mem hi)
      have r2 : Rep (B.op Dd) H2 (L2.wipe σ vs) (wipeG Γ vs) := ((((r.ext e1).opn hD e0 (by rw [upd_same]; exact fun z => nomatch z)).sm (h2.sm op_pp)).ext s2).wipe vs
      refine hg _ H2 x r2 rx _ fun σ2 r3 hw2 => ⟨(hw2 vs hj).trans wipe_idem, ht σ2 H2 r3 _ fun H3 e3 => ?_⟩
      have etake : (xs.take (i + 1)).filter f = (xs.take i).filter f ++ (if f xs[i] = true then [xs[i]] else []) := by
        rw [List.take_add_one, hx, List.filter_append]
        congr 1
        show List.filter f [xs[i]] = _
        by_cases hp : f xs[i] = true
        · rw [if_pos hp, List.filter_cons, if_pos hp]; rfl
        · rw [if_neg hp, List.filter_cons, if_neg hp]; rfl
      have hlen : acc.length < sizeLine := by
        have z1 := h3.length
        rw [List.length_map] at z1
        have z2 := List.length_filter_le f (xs.take i)
        have z3 : (xs.take i).length ≤ i := by rw [List.length_take]; omega
        rw [sizeLine_eq]
        omega
      have s3 : Sp Dd (upd H1 Dd (.lst [])) H3 := h2.trans (.of (s2.trans e3))
      cases hp : f xs[i] with
      | true =>
        refine he hp σ2 H3 (r3.ext e3) _ fun yv H4 e4 ry => ?_
        have hD4 : H4 Dd = some (.lst acc) := e4 _ _ (e3 _ _ (s2 _ _ h1))
        have s5 : Sp Dd H4 (upd H4 Dd (.lst (acc ++ [yv]))) := Sp.upd hD4 fun _ _ z => nomatch z
        refine ⟨acc, hD4, hlen, (s3.trans (.of e4)).trans s5, _, upd_same, ?_⟩
        rw [etake, if_pos hp, List.map_append]
        exact ((h3.ext (s2.trans (e3.trans e4))).append (.cons ry .nil)).sm (s5.sm op_pp)
      | false =>
        refine ⟨s3, acc, e3 _ _ (s2 _ _ h1), ?_⟩
        rw [etake, if_neg (by rw [hp]; exact Bool.false_ne_true), List.append_nil]
        exact h3.ext (s2.trans e3)
    · rintro H' ⟨h2, h1⟩
      rw [List.take_length] at h1
      exact q _ H' (e1.trans (Sp.same_from e0 h2 hD)) (h1.data hn)
theorem eg_lcNAll {α : Type} {wi : TI} {g : TG} {vs : List Nat} {xs : List α} {ee : α → D} {js : List Nat} (fn : α → D) (hw : WG B wi Γ (xs.map ee)) (hj : ∀ j ∈ js, j ∈ vs) (hl : xs.length ≤ 100000)
    (hs : ∀ (p : Addr), ∀ x ∈ xs, ∃ Γ1, GG (B.op p) g js (ee x) (wipeG Γ vs) Γ1 ∧ EG (B.op p) te Γ1 (fn x)) : EG B (tLc wi g tYes te vs) Γ (.lst (xs.map fn)) := by
  have h := eg_lcN (B := B) (Γ := Γ) (te := te) (tt := tYes) (fun _ => true) fn hw hj hl fun p x hx => by
    obtain ⟨Γ1, h1, h2⟩ := hs p x hx
    exact ⟨Γ1, h1, fun σ H r Q q => q H (Same.refl H), fun _ => h2⟩
  rw [List.filter_eq_self.mpr fun _ _ => rfl] at h
  exact h
theorem eg_lc2N {α β : Type} {wi wi1 : TI} {g g1 : TG} {vs vs1 : List Nat} {xs : List α} {ys : List β} {ee : α → D} {e2 : β → D} {js js1 : List Nat} (fn : α → β → D) (hw : WG B wi Γ (xs.map ee)) (hj : ∀ j ∈ js, j ∈ vs) (hj1 : ∀ j ∈ js1, j ∈ vs1) (hl : (xs.length + 1) * (ys.length + 1) ≤ 100000)
    (hs : ∀ (p : Addr), ∀ x ∈ xs, ∃ Γ1, GG (B.op p) g js (ee x) (wipeG Γ vs) Γ1 ∧ WG (B.op p) wi1 Γ1 (ys.map e2) ∧ ∀ y ∈ ys, ∃ Γ2, GG (B.op p) g1 js1 (e2 y) (wipeG Γ1 vs1) Γ2 ∧ EG (B.op p) te Γ2 (fn x y)) :
    EG B (tLc2 wi g tYes wi1 g1 tYes te vs vs1) Γ (.lst (xs.flatMap fun x => ys.map (fn x))) := fun σ H r Q q =>
  hw σ H r _ fun J H1 G Y e1 w hG hY Dd hD => by
    rw [List.length_map] at w
    have hn := (r.ext e1).pp.new hD
    have e0 : Same H1 (upd H1 Dd (.lst [])) := same_new hD
    have lenF : ∀ zs : List α, (zs.flatMap fun x => ys.map (fn x)).length = zs.length * ys.length := by
      intro zs
      induction zs with
      | nil => simp
      | cons z zs ih => rw [List.flatMap_cons, List.length_append, ih, List.length_map, List.length_cons, Nat.add_mul]; omega
    refine ⟨fun i m H' => m = xs.length - i ∧ i ≤ xs.length ∧ Sp Dd (upd H1 Dd (.lst [])) H' ∧ LJ B Dd ((xs.take i).flatMap fun x => ys.map (fn x)) H', ⟨xs.length, rfl, Nat.zero_le _, Sp.refl _, [], upd_same, by rw [List.take_zero]; exact .nil⟩, ?_⟩
    rintro i m H' ⟨rfl, hi, h2, h1⟩
    have hGi := hG _ H' (ex_opn hD) (Sm.trans (Sm.of e0) (h2.sm op_pp))
    rcases Nat.lt_or_ge i xs.length with hlt | hge
    · refine .inr ⟨w.goes i H' hlt hGi, fun H3 => Sp Dd (upd H1 Dd (.lst [])) H3 ∧ LJ B Dd ((xs.take (i + 1)).flatMap fun x => ys.map (fn x)) H3, fun H3 h3 => ⟨_, by omega, rfl, by omega, h3.1, h3.2⟩, fun x H2 y => ?_⟩
      have hx : xs[i]? = some xs[i] := List.getElem?_eq_getElem hlt
      have hd' : (xs.map ee)[i]? = some (ee xs[i]) := by rw [List.getElem?_map, hx]; rfl
      obtain ⟨s2, rx⟩ := hY _ i H' x H2 _ (ex_opn hD) (Sm.trans (Sm.of e0) (h2.sm op_pp)) hd' (w.yields i H' x H2 hlt hGi y)
      obtain ⟨Γ1, hg, hw1, hy⟩ := hs Dd xs[i] (List.getElem_mem hlt)
      have r2 : Rep (B.op Dd) H2 (L2.wipe σ vs) (wipeG Γ vs) := ((((r.ext e1).opn hD e0 (by rw [upd_same]; exact fun z => nomatch z)).sm (h2.sm op_pp)).ext s2).wipe vs
      refine hg _ H2 x r2 rx _ fun σ2 r3 hw2 => ⟨(hw2 vs hj).trans wipe_idem, ?_⟩
      show wi1 σ2 H2 _
      refine hw1 σ2 H2 r3 _ fun J1 H4 G1 Y1 e4 w1 hG1 hY1 => ?_
      rw [List.length_map] at w1
      have etake : (xs.take (i + 1)).flatMap (fun x => ys.map (fn x)) = ((xs.take i).flatMap fun x => ys.map (fn x)) ++ ys.map (fn xs[i]) := by
        rw [List.take_add_one, hx, List.flatMap_append]
        simp
      have s4 : Sp Dd (upd H1 Dd (.lst [])) H4 := h2.trans (.of (s2.trans e4))
      refine ⟨fun j k H5 => k = ys.length - j ∧ j ≤ ys.length ∧ Sp Dd H4 H5 ∧ LJ B Dd (((xs.take i).flatMap fun x => ys.map (fn x)) ++ (ys.take j).map (fn xs[i])) H5, ⟨ys.length, rfl, Nat.zero_le _, Sp.refl _, ?_⟩, ?_⟩
      · rw [List.take_zero, List.map_nil, List.append_nil]
        exact lj_stb _ _ _ (s2.trans e4) h1
      · rintro j k H5 ⟨rfl, hj', s5, acc, h5, h6⟩
        have hG5 := hG1 _ H5 (Ex.refl _ _) (s5.sm op_pp)
        rcases Nat.lt_or_ge j ys.length with jlt | jge
        · refine .inr ⟨w1.goes j H5 jlt hG5, fun H6 => Sp Dd H4 H6 ∧ LJ B Dd (((xs.take i).flatMap fun x => ys.map (fn x)) ++ (ys.take (j + 1)).map (fn xs[i])) H6, fun H6 h => ⟨_, by omega, rfl, by omega, h.1, h.2⟩, fun x6 H6 y6 => ?_⟩
          have hyj : ys[j]? = some ys[j] := List.getElem?_eq_getElem jlt
          have hd6 : (ys.map e2)[j]? = some (e2 ys[j]) := by rw [List.getElem?_map, hyj]; rfl
          obtain ⟨s6, rx6⟩ := hY1 _ j H5 x6 H6 _ (Ex.refl _ _) (s5.sm op_pp) hd6 (w1.yields j H5 x6 H6 jlt hG5 y6)
          obtain ⟨Γ2, hg2, he2⟩ := hy ys[j] (List.getElem_mem jlt)
          have r6 : Rep (B.op Dd) H6 (L2.wipe σ2 vs1) (wipeG Γ1 vs1) := (((r3.ext e4).sm (s5.sm op_pp)).ext s6).wipe vs1
          refine hg2 _ H6 x6 r6 rx6 _ fun σ3 r7 hw3 => ⟨(hw3 vs1 hj1).trans wipe_idem, ?_⟩
          show te σ3 H6 _
          refine he2 σ3 H6 r7 _ fun yv H7 e7 ry => ?_
          have hD7 : H7 Dd = some (.lst acc) := e7 _ _ (s6 _ _ h5)
          have s7 : Sp Dd H7 (upd H7 Dd (.lst (acc ++ [yv]))) := Sp.upd hD7 fun _ _ z => nomatch z
          have et2 : (ys.take (j + 1)).map (fn xs[i]) = (ys.take j).map (fn xs[i]) ++ [fn xs[i] ys[j]] := by
            rw [List.take_add_one, hyj, List.map_append]
            rfl
          refine ⟨acc, hD7, ?_, (s5.trans (.of (s6.trans e7))).trans s7, _, upd_same, ?_⟩
          · have z1 := h6.length
            rw [List.length_append, lenF, List.length_map, List.length_take, List.length_take] at z1
            have z2 : min i xs.length * ys.length ≤ xs.length * ys.length := Nat.mul_le_mul_right _ (Nat.min_le_right _ _)
            have z3 : (xs.length + 1) * (ys.length + 1) = xs.length * ys.length + xs.length + ys.length + 1 := by rw [Nat.add_mul, Nat.mul_add]; omega
            rw [sizeLine_eq]
            omega
          · rw [et2, ← List.append_assoc]
            exact ((h6.ext (s6.trans e7)).append (.cons ry .nil)).sm (s7.sm op_pp)
        · have ej : j = ys.length := by omega
          subst ej
          refine .inl ⟨w1.stops H5 hG5, s4.trans s5, acc, h5, ?_⟩
          rw [List.take_length] at h6
          rw [etake]
          exact h6
    · have ei : i = xs.length := by omega
      subst ei
      rw [List.take_length] at h1
      exact .inl ⟨w.stops H' hGi, q _ H' (e1.trans (Sp.same_from e0 h2 hD)) (h1.data hn)⟩
end
end Tl
end
section
set_option Elab.async false
set_option linter.all false
set_option maxRecDepth 100000
set_option maxHeartbeats 2000000
set_option autoImplicit false
/-! Dicts whose keys are nested tuples. -/
namespace Tl
open PySem PySem.Spec PyProof.Rows L2
abbrev Ent := NestedKey × Addr × V
section
variable {X : Cx} {pins : List (Addr × Obj)} {σ : L2.St} {H : Hp} {s : Shared}
mutual
theorem nk_is {B : Bs} (hK : X.K = B.K) (I : Inv X pins σ H s) : ∀ {v : V} {d : D} {u : Value}, R B H v d → kb d = true → RelV v u → NestedIs s.heap (nk d) u
  | _, _, u, .non, _, r => by
    obtain rfl : u = Value.none := r
    rw [nk]
    exact .none
  | _, _, _, .bl b, k, _ => by rw [kb] at k; cases k
  | _, _, u, .int i, _, r => by
    obtain ⟨t, rfl⟩ := r
    rw [nk]
    exact .int i t
  | _, _, u, .str x, _, r => by
    obtain ⟨t, rfl⟩ := r
    rw [nk]
    exact .text x t
  | _, _, u, .tup (a := a) h q, k, r => by
    obtain rfl : u = Value.ref a := r
    rw [nk]
    rw [kb] at k
    obtain ⟨its, rv, ⟨o, ho, hc, n, hd⟩, _⟩ := I.tuple (hK ▸ h.sq)
    exact .tup ho hc hd (nks_is hK I q k (by simpa using rv))
  | _, _, _, .lst _ _ _, k, _ => by rw [kb] at k; cases k
  | _, _, _, .dk _ _ _, k, _ => by rw [kb] at k; cases k
  | _, _, _, .dn _ _ _, k, _ => by rw [kb] at k; cases k
  | _, _, _, .raw _, k, _ => by rw [kb] at k; cases k
theorem nks_is {B : Bs} (hK : X.K = B.K) (I : Inv X pins σ H s) : ∀ {vs : List V} {ds : List D} {us : List Value}, RA B H vs ds → kbs ds = true → Vals vs us → NestedAll s.heap (nks ds) us
  | _, _, _, .nil, _, .nil => by rw [nks]; exact .nil
  | _, _, _, .cons r t, k, .cons rv tv => by
    rw [kbs, Bool.and_eq_true] at k
    rw [nks]
    exact .cons (nk_is hK I r k.1 rv) (nks_is hK I t k.2 tv)
end
end
/-- a is a key, as the data kd -/
def KyAt (B : Bs) (H : Hp) (a : Addr) (k : NestedKey) : Prop := ∃ (pp : Addr → Prop) (kd : D), kb kd = true ∧ (nk kd).depth ≤ 8 ∧ k = nk kd ∧ R (B.at pp) H (.ref a) kd
def KH (B : Bs) (H : Hp) (es : List Ent) : Prop := ∀ e ∈ es, KyAt B H e.2.1 e.1
theorem KyAt.ext {B : Bs} {H H' : Hp} {a : Addr} {k : NestedKey} (h : KyAt B H a k) (e : Same H H') : KyAt B H' a k := let ⟨pp, kd, h1, h2, h3, h4⟩ := h; ⟨pp, kd, h1, h2, h3, h4.ext e⟩
theorem re_kh {B : Bs} {H : Hp} : ∀ {es : List Ent} {kvs : List (D × D)}, RE B H es kvs → KH B H es
  | _, _, .nil => fun e he => by cases he
  | _, _, .cons h1 h2 r1 r2 t => fun e he => by
    rcases List.mem_cons.mp he with z | he
    · rw [z]
      exact ⟨B.pp, _, h1, h2, rfl, r1⟩
    · exact re_kh t e he
section
variable {X : Cx} {pins : List (Addr × Obj)} {σ : L2.St} {H : Hp} {s : Shared} {B : Bs} {d a : Addr} {es : List Ent} {o : Obj} {k : NestedKey}
theorem ky_is (hP : X.prog = B.P) (hw : X.w = B.w) (hK : X.K = B.K) (I : Inv X pins σ H s) (h : KyAt B H a k) : (nestedKind X.prog X.w).is s.heap k a := by
  obtain ⟨pp, kd, h1, h2, rfl, h4⟩ := h
  exact ⟨nk_is (B := B.at pp) hK I h4 h1 (show RelV (.ref a) (.ref a) from rfl), h2⟩
theorem nd_at (hP : X.prog = B.P) (hw : X.w = B.w) (I : Inv X pins σ H s) (h : Rd H d (nd B.P B.w d o es)) : ndP X.prog X.w d o es s.heap := by
  rw [hP, hw]
  rcases h with h | ⟨ob, h⟩
  · exact (I.hok d _ h).1
  · exact (I.hok d _ h).2.1
theorem ent_len : ∀ {es : List Ent} {xs : List (NestedKey × Addr × Value)}, Paired EntRel es xs → es.length = xs.length
  | _, _, .nil => rfl
  | _, _, .cons _ t => congrArg (· + 1) (ent_len t)
theorem ent_mem : ∀ {es : List Ent} {xs : List (NestedKey × Addr × Value)}, Paired EntRel es xs → ∀ x ∈ xs, ∃ e ∈ es, e.1 = x.1 ∧ e.2.1 = x.2.1
  | _, _, .nil => fun x hx => by cases hx
  | _, _, .cons r t => fun x hx => by
    rcases List.mem_cons.mp hx with z | hx
    · rw [z]
      exact ⟨_, List.mem_cons_self, r.1, r.2.1⟩
    · obtain ⟨e, he, h⟩ := ent_mem t x hx
      exact ⟨e, List.mem_cons_of_mem _ he, h⟩
theorem nd_of (hP : X.prog = B.P) (hw : X.w = B.w) (hK : X.K = B.K) (I : Inv X pins σ H s) (h : Rd H d (nd B.P B.w d o es)) (hk : KH B H es) :
    es.length ≤ sizeLine ∧ (d == sysModules) = false ∧ ∃ xs : List (NestedKey × Addr × Value), Paired EntRel es xs ∧ s.heap.DictOfH (nestedKind X.prog X.w) d xs := by
  obtain ⟨ho, hz, hd, hx, xs, hp, tab, ep, hdat, htab, hn⟩ := nd_at hP hw I h
  refine ⟨hz, hd, xs, hp, o, tab, ep, ho, hx, hdat, htab, fun x hx' => ?_, hn⟩
  obtain ⟨e, he, e1, e2⟩ := ent_mem hp x hx'
  rw [← e1, ← e2]
  exact ky_is hP hw hK I (hk e he)
def eFind (es : List Ent) (k : NestedKey) : Option V := (es.find? fun e => decide (e.1 = k)).map (·.2.2)
theorem ent_find : ∀ {es : List Ent} {xs : List (NestedKey × Addr × Value)}, Paired EntRel es xs → (eFind es k = none ∧ atKey xs k = none) ∨ ∃ v a' u, eFind es k = some v ∧ atKey xs k = some (a', u) ∧ RelV v u
  | _, _, .nil => .inl ⟨rfl, rfl⟩
  | _, _, .cons (a := e) (b := x) r t => by
    unfold eFind atKey
    rw [List.find?_cons, List.find?_cons, r.1]
    by_cases h : x.1 = k
    · rw [decide_eq_true h]
      exact .inr ⟨_, x.2.1, x.2.2, rfl, rfl, r.2.2⟩
    · rw [decide_eq_false h]
      exact ent_find t
def ePut (es : List Ent) (k : NestedKey) (a : Addr) (v : V) : List Ent := if (eFind es k).isSome then es.map (fun e => if e.1 = k then (e.1, e.2.1, v) else e) else es ++ [(k, a, v)]
theorem ent_map {v : V} {u : Value} (r : RelV v u) : ∀ {es : List Ent} {xs : List (NestedKey × Addr × Value)}, Paired EntRel es xs → Paired EntRel (es.map fun e => if e.1 = k then (e.1, e.2.1, v) else e) (xs.map (putAt k u))
  | _, _, .nil => .nil
  | _, _, .cons (a := e) (b := x) q t => by
    refine .cons ?_ (ent_map r t)
    show EntRel (if e.1 = k then (e.1, e.2.1, v) else e) (if x.1 = k then (x.1, x.2.1, u) else x)
    by_cases h : x.1 = k
    · rw [if_pos (q.1.trans h), if_pos h]
      exact ⟨q.1, q.2.1, r⟩
    · rw [if_neg (fun z => h (q.1.symm.trans z)), if_neg h]
      exact q
theorem ent_app : ∀ {es fs : List Ent} {xs ys : List (NestedKey × Addr × Value)}, Paired EntRel es xs → Paired EntRel fs ys → Paired EntRel (es ++ fs) (xs ++ ys)
  | _, _, _, _, .nil, h => h
  | _, _, _, _, .cons r t, h => .cons r (ent_app t h)
theorem ent_put {v : V} {u : Value} (r : RelV v u) {xs : List (NestedKey × Addr × Value)} (h : Paired EntRel es xs) : Paired EntRel (ePut es k a v) (storedH xs k a u) := by
  unfold ePut storedH
  rcases ent_find (k := k) h with ⟨h1, h2⟩ | ⟨v', a', u', h1, h2, _⟩
  · rw [h1, h2]
    exact ent_app h (.cons ⟨rfl, rfl, r⟩ .nil)
  · rw [h1, h2]
    exact ent_map r h
theorem ePut_len (v : V) : (ePut es k a v).length ≤ es.length + 1 := by
  unfold ePut
  split
  · rw [List.length_map]; omega
  · rw [List.length_append, List.length_singleton]; omega
end
/-! the rules -/
section
variable {X : Cx} {B : Bs}
/-- k in d -/
def rNdIn (B : Bs) (neg : Bool) : R2 := fun x c H Q => ∃ a d o es k, x = .ref a ∧ c = .ref d ∧ Rd H d (nd B.P B.w d o es) ∧ KH B H es ∧ KyAt B H a k ∧ Q (.bl (if neg then !(eFind es k).isSome else (eFind es k).isSome)) H
theorem op_ndin (hP : X.prog = B.P) (hw : X.w = B.w) (hK : X.K = B.K) (hu : X.A.units + 64 < cLine) : OpR X (compareOp .In) (rNdIn B false) := by
  intro pins s σ H x y v u Q I rx ry h
  obtain ⟨a, d, o, es, k, rfl, rfl, hd, hk, hky, q⟩ := h
  cases rx
  cases ry
  obtain ⟨hz, hs, xs, hp, D⟩ := nd_of hP hw hK I hd hk
  refine wpAny_in_heap (by show X.A.units + 1 + 8 < cLine; omega) (ky_is hP hw hK I hky) hs D ?_
  rcases ent_find (k := k) hp with ⟨h1, h2⟩ | ⟨v', a', u', h1, h2, _⟩ <;> rw [h1] at q <;> rw [h2] <;> exact ⟨.bl _, H, I.tok _, rfl, q⟩
theorem op_ndni (hP : X.prog = B.P) (hw : X.w = B.w) (hK : X.K = B.K) (hu : X.A.units + 64 < cLine) : OpR X (compareOp .NotIn) (rNdIn B true) := by
  intro pins s σ H x y v u Q I rx ry h
  obtain ⟨a, d, o, es, k, rfl, rfl, hd, hk, hky, q⟩ := h
  cases rx
  cases ry
  obtain ⟨hz, hs, xs, hp, D⟩ := nd_of hP hw hK I hd hk
  show wpAny _ _ (do return Value.bool (!(← contains (.ref d) (.ref a)))) _ _ _
  refine wpAny_bind (wpAny_contains_heap (by show X.A.units + 1 + 8 < cLine; omega) (ky_is hP hw hK I hky) hs D (wpAny_pure ?_))
  rcases ent_find (k := k) hp with ⟨h1, h2⟩ | ⟨v', a', u', h1, h2, _⟩ <;> rw [h1] at q <;> rw [h2] <;> exact ⟨.bl _, H, I.tok _, rfl, q⟩
/-- d[k] -/
def rNdIx (B : Bs) : R2 := fun c x H Q => ∃ a d o es k v, x = .ref a ∧ c = .ref d ∧ Rd H d (nd B.P B.w d o es) ∧ KH B H es ∧ KyAt B H a k ∧ eFind es k = some v ∧ Q v H
theorem ix_nd (hP : X.prog = B.P) (hw : X.w = B.w) (hK : X.K = B.K) (hu : X.A.units + 64 < cLine) : IxR X (rNdIx B) := by
  intro value slice pins s σ H x y v u Q I rx ry h hs0
  obtain ⟨a, d, o, es, k, vv, rfl, rfl, hd, hk, hky, hf, q⟩ := h
  cases rx
  cases ry
  obtain ⟨hz, hs, xs, hp, D⟩ := nd_of hP hw hK I hd hk
  rcases ent_find (k := k) hp with ⟨h1, h2⟩ | ⟨v', a', u', h1, h2, r⟩
  · rw [h1] at hf
    cases hf
  · rw [h1] at hf
    cases hf
    exact subscriptTail_builtinR (x := u') D.typeIs PySem.F.slot_dict_getitem.lookup (wpAny_getItem_heap (by show X.A.units + 1 + 8 < cLine; omega) (ky_is hP hw hK I hky) D h2 (show u' = u' ∧ EP X pins σ Q u' _ from ⟨rfl, vv, H, I.tok _, r, q⟩)) hs0
/-- d.get(k, x) -/
def tNdGet (B : Bs) (td ty tx : TE) : TE := fun σ H Q => td σ H fun c H1 => (∃ d o es, c = .ref d ∧ Rd H1 d (nd B.P B.w d o es)) ∧ ty σ H1 fun y H2 => tx σ H2 fun z H3 => ∃ a d o es k, y = .ref a ∧ c = .ref d ∧ Rd H3 d (nd B.P B.w d o es) ∧ KH B H3 es ∧ KyAt B H3 a k ∧ Q ((eFind es k).getD z) H3
theorem pe_ndget2 {o e f : Expr} {apos cpos : Pos} {td ty tx : TE} (hP : X.prog = B.P) (hw : X.w = B.w) (hK : X.K = B.K) (hu : X.A.units + 64 < cLine) (ho : PE X o td) (he : PE X e ty) (hf : PE X f tx) (m : M2 X o "get" apos e f cpos) : PE X (.Call (.Attribute o "get" apos) [e, f] [] cpos) (tNdGet B td ty tx) := by
  refine ⟨fun pins s σ H Q I h => ?_⟩
  refine wpAny_Call_method m.base m.few m.line PySem.F.plainAttrs_dict PySem.F.slot_dict_get PySem.F.type_dict_get (thn (ho.run pins s σ H _ I h) fun u s1 hh => ?_)
  obtain ⟨x, H1, I1, rx, ⟨d, ob, es, rfl, hd⟩, q1⟩ := hh
  obtain rfl : u = Value.ref d := rx
  obtain ⟨hob, _, _, hx, _⟩ := nd_at hP hw I1 hd
  refine ⟨⟨ob, hob, hx.1⟩, fun b e => by cases e; exact ⟨ob, hob, hx.2.1⟩, ?_⟩
  rw [m.trees]
  refine Calls.callWith_builtin rfl (Calls.evalArgs_plain (Calls.spliced_cons (thn (he.run pins s1 σ H1 _ I1 q1) fun iv s2 hh2 => ?_)))
  obtain ⟨y, H2, I2, ry, q2⟩ := hh2
  refine Calls.spliced_cons (thn (hf.run pins s2 σ H2 _ I2 q2) fun fv s3 hh3 => Calls.spliced_nil ?_)
  obtain ⟨z, H3, I3, rz, a, d', o', es', k, rfl, e, hd3, hk, hky, q3⟩ := hh3
  cases e
  obtain rfl : iv = Value.ref a := ry
  obtain ⟨hz, hs, xs, hp, D⟩ := nd_of hP hw hK I3 hd3 hk
  refine call_meetsIn PySem.F.slot_dict_get D.typeIs PySem.F.entry_dict_get (PySem.F.args_dict_get_3 _ _ _) (meetsH_dict_get_default (nestedKind X.prog X.w) d a hs fv) ⟨by show X.A.units + 1 + 8 < cLine; omega, k, xs, ky_is hP hw hK I3 hky, D, ?_⟩
  rcases ent_find (k := k) hp with ⟨h1, h2⟩ | ⟨v', a', u', h1, h2, r⟩
  · rw [h1] at q3
    rw [h2]
    exact ⟨z, H3, I3.tok _, rz, q3⟩
  · rw [h1] at q3
    rw [h2]
    exact ⟨v', H3, I3.tok _, r, q3⟩
/-- d[k] = v -/
def rSetN (B : Bs) : TSet := fun c x v H Q => ∃ a d o es k, x = .ref a ∧ c = .ref d ∧ H d = some (nd B.P B.w d o es) ∧ KH B H es ∧ KyAt B H a k ∧ es.length < 100000 ∧ ∀ o', Q (upd H d (nd B.P B.w d o' (ePut es k a v)))
theorem set_nd (hP : X.prog = B.P) (hw : X.w = B.w) (hK : X.K = B.K) (hu : X.A.units + 64 < cLine) : PSet X (rSetN B) := by
  intro pins s σ H c x v cv xv u Q I rc rx rv h
  obtain ⟨a, d, o, es, k, rfl, rfl, hd, hk, hky, hl, q⟩ := h
  cases rc
  cases rx
  obtain ⟨hz, hs, xs, hp, D⟩ := nd_of hP hw hK I (.inl hd) hk
  refine wpAny_setItem_heap (by show X.A.units + 1 + 8 < cLine; omega) (ky_is hP hw hK I hky) D (fun h' D' sb => ?_) (by rw [← ent_len hp]; exact hz)
  obtain ⟨o', tab, ep, ho', hx', hdat, htab, hkeys, hn⟩ := D'
  refine ⟨_, I.write (x := d) (e := d) (t' := _) (by rw [hd]; exact True.intro) (.inl rfl) (fun b q hb z => (sb.2 b hb).trans z) ⟨o', ho'⟩ ?_, q o'⟩
  refine ⟨⟨ho', ?_, hs, hx', storedH xs k a u, ent_put rv hp, tab, ep, hdat, ?_, hn⟩, ⟨o', ho'⟩, fun h1 h2 hφ hkp => ⟨hkp _ hφ.1, hφ.2⟩⟩
  · have := ePut_len (es := es) (k := k) (a := a) v
    rw [sizeLine_eq]
    omega
  · rw [← hP, ← hw]
    exact htab
/-- len(d) -/
def rLenN (B : Bs) : List V → Hp → VK → Prop := fun xs H Q => ∃ d o es, xs = [.ref d] ∧ Rd H d (nd B.P B.w d o es) ∧ KH B H es ∧ Q (.int (es.length : Nat)) H
theorem call_lenN (hP : X.prog = B.P) (hw : X.w = B.w) (hK : X.K = B.K) : CallR X (.builtin "len") (rLenN B) := by
  intro pins s σ H xs us Q I r h
  obtain ⟨d, o, es, rfl, hd, hk, q⟩ := h
  obtain ⟨u, rfl, rx⟩ := vals1 r
  cases rx
  obtain ⟨hz, hs, ys, hp, D⟩ := nd_of hP hw hK I hd hk
  have hl := ent_len hp
  refine call_len_dictH hs D (by rw [← hl]; rw [sizeLine_eq] at hz; omega) ?_
  rw [← hl]
  exact ⟨.int _, H, I.tok _, ⟨_, rfl⟩, q⟩
/-- {} -/
def tDnew (B : Bs) : TE := fun _ H Q => ∀ p o, H p = none → Q (.ref p) (upd H p (nd B.P B.w p o []))
theorem pe_dnew {pos : Pos} (hP : X.prog = B.P) (hw : X.w = B.w) : PE X (.Dict [] [] pos) (tDnew B) := ⟨fun pins s σ H Q I h => by
  refine wpAny_Dict_empty ⟨.ref s.heap.objs.size, _, I.laid (a := s.heap.objs.size) (t' := s.toks) (fun _ _ q => Heap.get?_push_of_some _ q) (Nat.le_refl _) ?_, rfl, h _ { cls := .type "dict", data := .dict #[] } (I.hok.fresh (Nat.le_refl _))⟩
  exact ⟨⟨Heap.get?_push_size _ rfl, Nat.zero_le _, beq_eq_false_iff_ne.mpr (Nat.ne_of_gt I.big), ⟨rfl, rfl, rfl⟩, [], .nil, #[], 0, rfl, rfl, List.nodup_nil⟩, ⟨_, Heap.get?_push_size _ rfl⟩, fun h1 h2 hφ hkp => ⟨hkp _ hφ.1, hφ.2⟩⟩⟩
/-- for k, v in d.items() -/
def ItN (B : Bs) (d : Addr) (o : Obj) (es : List Ent) : It :=
  ⟨fun i H => Rd H d (nd B.P B.w d o es) ∧ KH B H es ∧ i < es.length, fun i H v H' => ∃ T e ob, es[i]? = some e ∧ v = .ref T ∧ H T = none ∧ ob.dict = none ∧ H' = upd H T (.frz ob (.tup [.ref e.2.1, e.2.2])), fun i H => Rd H d (nd B.P B.w d o es) ∧ KH B H es ∧ es.length ≤ i⟩
theorem dict_one {o : Obj} {t1 t2 : Array DictEntry} {e1 e2 : Nat} (h1 : o.data = .dict t1 e1) (h2 : o.data = .dict t2 e2) : t1 = t2 ∧ e1 = e2 := by
  rw [h1] at h2
  cases h2
  exact ⟨rfl, rfl⟩
theorem ent_at : ∀ {es : List Ent} {xs : List (NestedKey × Addr × Value)} {i : Nat} {e : Ent}, Paired EntRel es xs → es[i]? = some e → ∃ x, xs[i]? = some x ∧ EntRel e x
  | _, _, _, _, .nil, h => by simp at h
  | _, _, 0, _, .cons r _, h => by simp at h; subst h; exact ⟨_, rfl, r⟩
  | _, _, i + 1, e, .cons _ t, h => by
    obtain ⟨x, h1, h2⟩ := ent_at (i := i) (e := e) t (by simpa using h)
    exact ⟨x, by simpa using h1, h2⟩
theorem turn_nd {P : Program} {w : World} {K : PySem.W.Frag} {B : Bs} {elts : List Expr} {kk : Nat} {tpos : Pos} {d : Addr} {o : Obj} {es : List Ent} {tab : Array DictEntry} {ep : Nat} (hBP : P = B.P) (hBw : w = B.w) (hBK : K = B.K) (it : Addr) (hod : o.data = .dict tab ep) (hne : d ≠ it) :
    Turn P w K (.Tuple elts kk tpos) (ItN B d o es) [it] it (fun i h => ∃ ok ov, IsItemIter h it d i tab.size ep ok ov) where
  mem := by simp
  obj := fun i h st b hb => by
    have e : b = it := by simpa using hb
    subst e
    obtain ⟨ok, ov, e⟩ := st
    exact ⟨_, e, fun v z => nomatch z⟩
  keep := fun i h h' st k => let ⟨ok, ov, e⟩ := st; ⟨ok, ov, k it (by simp) _ e⟩
  item := by
    intro X hP hw hK hc i pins s σ H E I hf st hg
    obtain ⟨hd, hk, hi⟩ := hg
    have hP' : X.prog = B.P := hP.trans hBP
    have hw' : X.w = B.w := hw.trans hBw
    have hK' : X.K = B.K := hK.trans hBK
    subst hP hw
    obtain ⟨ho, hz, hs, hx, xs, hp, tab', ep', hdat, htab, hn⟩ := nd_at hP' hw' I hd
    obtain ⟨rfl, rfl⟩ := dict_one hdat hod
    obtain ⟨ok, ov, he⟩ := st
    have hlt : it < s.heap.objs.size := Heap.lt_size he
    have hl := ent_len hp
    have hsz : tab'.size = xs.length := by rw [← Array.length_toList, htab, List.length_map]
    have hi' : i < tab'.size := by omega
    obtain ⟨x, hx1, hx2⟩ := ent_at hp (List.getElem?_eq_getElem hi)
    have hen : tab'[i] = entryOfKey (nestedKind X.prog X.w) x := by
      have z : tab'.toList[i]? = some (entryOfKey (nestedKind X.prog X.w) x) := by rw [htab, List.getElem?_map, hx1]; rfl
      rw [Array.getElem?_toList, Array.getElem?_eq_getElem hi'] at z
      exact Option.some.inj z
    refine PySem.wpAny_pyNext_items_item_raw he ⟨o, ho, hx, hdat⟩ hi' fun h' ho' hT hzs hkp => ?_
    refine ⟨_, rfl, wpAny_letOwnedTupleGo_items (s := { s with heap := h' }) ho' fun h'' he' sb => ?_⟩
    have hT2 : h''.get? s.heap.objs.size = some { cls := .type "tuple", data := .seq #[tab'[i].key, tab'[i].val] } := (sb.2 _ (Nat.ne_of_gt hlt)).trans hT
    have hv : Vals [V.ref es[i].2.1, es[i].2.2] [tab'[i].key, tab'[i].val] := by
      rw [hen]
      refine .cons ?_ (.cons hx2.2.2 .nil)
      show Value.ref x.2.1 = Value.ref es[i].2.1
      rw [hx2.2.1]
    have new : ObjOk X.prog X.w (upd H s.heap.objs.size (.frz { cls := .type "tuple", data := .seq #[tab'[i].key, tab'[i].val] } (.tup [.ref es[i].2.1, es[i].2.2]))) h'' s.heap.objs.size (.frz { cls := .type "tuple", data := .seq #[tab'[i].key, tab'[i].val] } (.tup [.ref es[i].2.1, es[i].2.2])) :=
      ⟨hT2, by show 2 ≤ sizeLine; decide, [tab'[i].key, tab'[i].val], hv, ⟨_, hT2, rfl, _, rfl⟩⟩
    have I1 := I.turnedNew (t' := s.toks) (ch := [it]) (fun b ob hb e => (sb.2 b (by simpa using hb)).trans (hkp b ob (by simpa using hb) e)) hf (Nat.le_refl _) new
    refine ⟨.ref s.heap.objs.size, _, I1, rfl, ⟨_, es[i], _, List.getElem?_eq_getElem hi, rfl, I.hok.fresh (Nat.le_refl _), rfl, rfl⟩, ⟨_, _, he'⟩, fun b hb => ?_⟩
    have e : b = it := by simpa using hb
    rw [e, upd_ne (Nat.ne_of_lt hlt)]
    exact (hf it (by simp)).1
  done := by
    intro X hP hw hK hc i pins s σ H E I hf st hg
    obtain ⟨hd, hk, hi⟩ := hg
    have hP' : X.prog = B.P := hP.trans hBP
    have hw' : X.w = B.w := hw.trans hBw
    subst hP hw
    obtain ⟨ho, hz, hs, hx, xs, hp, tab', ep', hdat, htab, hn⟩ := nd_at hP' hw' I hd
    obtain ⟨rfl, rfl⟩ := dict_one hdat hod
    obtain ⟨f0, f1, f2, f3, f4, f5⟩ := hf it (by simp)
    obtain ⟨ok, ov, he⟩ := st
    have hl := ent_len hp
    have hsz : tab'.size = xs.length := by rw [← Array.length_toList, htab, List.length_map]
    exact PySem.wpAny_pyNext_items_end_raw (I.ok.hd hc) he ⟨o, ho, hx, hdat⟩ (by omega) fun h' eb => ⟨rfl, I.turned (t' := s.toks) (fun b ob hb e => eb b ob hb e) f0 f1 f3 f4 f5⟩
  self := fun A i s Q E st h => let ⟨_, _, e⟩ := st; PySem.W.kcp_self e h
def iItN (B : Bs) (td : TE) : TI := fun σ H Rr => td σ H fun x H1 => ∃ d o es, x = .ref d ∧ Rd H1 d (nd B.P B.w d o es) ∧ KH B H1 es ∧ Rr (ItN B d o es) H1
theorem k_itemsN {e : Expr} {td : TE} {elts : List Expr} {kk : Nat} {tpos apos cpos : Pos} (hP : X.prog = B.P) (hw : X.w = B.w) (hK : X.K = B.K) (he : PE X e td) (hbase : attributeBase e "items" X.env (eval e X.env) = eval e X.env := by rfl) (hline : (apos.endLine == cpos.line) = true := by rfl) :
    PI X (.Tuple elts kk tpos) (.Call (.Attribute e "items" apos) [] [] cpos) (iItN B td) := by
  refine ⟨fun pins s σ H R I h => ?_⟩
  refine wpAny_Call_method (T := "dict") (id := "dict.items") hbase rfl hline PySem.F.plainAttrs_dict PySem.F.slot_dict_items PySem.F.type_dict_items (thn (he.run pins s σ H _ I h) fun u s1 hh => ?_)
  obtain ⟨x, H1, I1, rx, d, o, es, rfl, hd, hk, q⟩ := hh
  obtain rfl : u = Value.ref d := rx
  obtain ⟨ho, hz, hs, hx, xs, hp, tab, ep, hdat, htab, hn⟩ := nd_at hP hw I1 hd
  have hdlt : d < s1.heap.objs.size := Heap.lt_size ho
  refine ⟨⟨o, ho, hx.1⟩, fun b e => by cases e; exact ⟨o, ho, hx.2.1⟩, ?_⟩
  have I2 : Inv X pins σ H1 { s1 with heap := s1.heap.push { cls := .type "dict_items", data := .fields #[.ref d] } } := I1.kept (t' := s1.toks) fun b ob q => Heap.get?_push_of_some _ q
  have hsz : (s1.heap.push { cls := .type "dict_items", data := .fields #[.ref d] }).objs.size = s1.heap.objs.size + 1 := Heap.size_push _ _
  have fin : wpAny (model X.prog X.w) X.A (pyIter (.ref s1.heap.objs.size)) (PIE X pins σ (.Tuple elts kk tpos) R) X.xe { s1 with heap := s1.heap.push { cls := .type "dict_items", data := .fields #[.ref d] } } := by
    refine PySem.wpAny_pyIter_items_raw (d := d) ⟨_, Heap.get?_push_size _ rfl, rfl, rfl⟩ ⟨o, Heap.get?_push_of_some _ ho, hx, hdat⟩ (pi_one (tk := s1.toks) I2 _ (turn_nd hP hw hK _ hdat ?_) ⟨.none, .none, ?_⟩ q)
    · exact Nat.ne_of_lt (Nat.lt_of_lt_of_eq (Nat.lt_succ_of_lt hdlt) hsz.symm)
    · exact Heap.get?_push_size _ rfl
  show wpAny _ _ (callWith cpos (.builtin "dict.items") [.ref d] [] []) _ X.xe s1
  exact method_meetsIn PySem.F.slot_dict_items PySem.F.entry_dict_items rfl (PySem.evalArgs_none ⟨rfl, ⟨o, ho, hx.1⟩, PySem.F.args_dict_items_1 _, _, PySem.meets_dict_items_raw d hs, ⟨tab, ep, o, ho, hx, hdat⟩, fin⟩)
/-- {k: v} -/
def tDdisp1 (B : Bs) (tk tv : TE) : TE := fun σ H Q => ∀ p o, H p = none → tk σ (upd H p (nd B.P B.w p o [])) fun x H1 => tv σ H1 fun v H2 => ∃ a k, x = .ref a ∧ H2 p = some (nd B.P B.w p o []) ∧ KyAt B H2 a k ∧ ∀ o', Q (.ref p) (upd H2 p (nd B.P B.w p o' [(k, a, v)]))
theorem nd_new {P : Program} {w : World} {H : Hp} (h : Heap) (hb : sysModules < h.objs.size) : ObjOk P w H (h.push { cls := .type "dict", data := .dict #[] }) h.objs.size (nd P w h.objs.size { cls := .type "dict", data := .dict #[] } []) :=
  ⟨⟨Heap.get?_push_size _ rfl, Nat.zero_le _, beq_eq_false_iff_ne.mpr (Nat.ne_of_gt hb), ⟨rfl, rfl, rfl⟩, [], .nil, #[], 0, rfl, rfl, List.nodup_nil⟩, ⟨_, Heap.get?_push_size _ rfl⟩, fun h1 h2 hφ hkp => ⟨hkp _ hφ.1, hφ.2⟩⟩
theorem pe_ddisp1 {k v : Expr} {pos : Pos} {tk tv : TE} (hP : X.prog = B.P) (hw : X.w = B.w) (hK : X.K = B.K) (hu : X.A.units + 64 < cLine) (hk : PE X k tk) (hv : PE X v tv) : PE X (.Dict [some k] [v] pos) (tDdisp1 B tk tv) := by
  refine ⟨fun pins s σ H Q I h => ?_⟩
  have hn := I.hok.fresh (Nat.le_refl s.heap.objs.size)
  have I1 := I.laid (a := s.heap.objs.size) (o := nd B.P B.w s.heap.objs.size { cls := .type "dict", data := .dict #[] } []) (h' := s.heap.push { cls := .type "dict", data := .dict #[] }) (t' := s.toks) (fun _ _ q => Heap.get?_push_of_some _ q) (Nat.le_refl _) (hP ▸ hw ▸ nd_new s.heap I.big)
  rw [arm_eval_Dict, zip_pairTrees [some k] [v] X.env pos rfl rfl, dictDisplay_pairs (pairTrees [some k] [v] X.env pos) (by simp [pairTrees]) (by simp [pairTrees])]
  refine wpAny_bind (wpAny_standAt (wpAny_bind (wpAny_subDictH (knd := nestedKind X.prog X.w) (Q := fun d s' => wpAny (model X.prog X.w) X.A (pure (Value.ref d)) (EP X pins σ Q) X.xe s') (by show X.A.units + 8 < cLine; omega) (by simp [pairTrees]) ?_)))
  refine pairTrees_cons_walk (thn (hk.run pins _ σ _ _ I1 (h _ { cls := .type "dict", data := .dict #[] } hn)) fun u s1 hh1 => ?_)
  obtain ⟨x, H1, I2, rx, q1⟩ := hh1
  refine thn (hv.run pins s1 σ H1 _ I2 q1) fun u2 s2 hh2 => pairTrees_nil_walk ?_
  obtain ⟨y, H2, I3, ry, a, kk, rfl, hp, hky, q2⟩ := hh2
  obtain rfl : u = Value.ref a := rx
  obtain ⟨hz, hs, xs0, hp0, D⟩ := nd_of hP hw hK I3 (.inl hp) (fun e he => by cases he)
  cases hp0
  refine ⟨[(kk, a, u2)], ⟨rfl, rfl, ky_is hP hw hK I3 hky, trivial⟩, D, fun h' tk' D' sb => ?_⟩
  obtain ⟨o', tab, ep, ho', hx', hdat, htab, hkeys, hnd⟩ := D'
  refine wpAny_pure ⟨.ref s.heap.objs.size, _, I3.write (x := s.heap.objs.size) (e := s.heap.objs.size) (t' := tk') (by rw [hp]; exact True.intro) (.inl rfl) (fun b q hb z => (sb.2 b hb).trans z) ⟨o', ho'⟩ ?_, rfl, q2 o'⟩
  refine ⟨⟨ho', by show 1 ≤ sizeLine; decide, hs, hx', [(kk, a, u2)], .cons ⟨rfl, rfl, ry⟩ .nil, tab, ep, hdat, ?_, hnd⟩, ⟨o', ho'⟩, fun h1 h2 hφ hkp => ⟨hkp _ hφ.1, hφ.2⟩⟩
  rw [← hP, ← hw]
  exact htab
end
/-! over data -/
def dFind (kvs : List (D × D)) (k : NestedKey) : Option D := (kvs.find? fun e => decide (nk e.1 = k)).map (·.2)
def dPut (kvs : List (D × D)) (kd v : D) : List (D × D) := if (dFind kvs (nk kd)).isSome then kvs.map (fun e => if nk e.1 = nk kd then (e.1, v) else e) else kvs ++ [(kd, v)]
section
variable {B : Bs} {H : Hp} {Γ : Gm} {td ty tx te tk tv : TE}
theorem re_find : ∀ {es : List Ent} {kvs : List (D × D)} (k : NestedKey), RE B H es kvs → (eFind es k = none ∧ dFind kvs k = none) ∨ ∃ v d, eFind es k = some v ∧ dFind kvs k = some d ∧ R B H v d
  | _, _, _, .nil => .inl ⟨rfl, rfl⟩
  | _, _, k, .cons (kd := kd) h1 h2 r1 r2 t => by
    unfold eFind dFind
    rw [List.find?_cons, List.find?_cons]
    by_cases h : nk kd = k
    · rw [decide_eq_true h]
      exact .inr ⟨_, _, rfl, rfl, r2⟩
    · rw [decide_eq_false h]
      exact re_find k t
theorem re_len : ∀ {es : List Ent} {kvs : List (D × D)}, RE B H es kvs → es.length = kvs.length
  | _, _, .nil => rfl
  | _, _, .cons _ _ _ _ t => congrArg (· + 1) (re_len t)
theorem re_map {v : V} {d : D} {k : NestedKey} (rv : R B H v d) : ∀ {es : List Ent} {kvs : List (D × D)}, RE B H es kvs → RE B H (es.map fun e => if e.1 = k then (e.1, e.2.1, v) else e) (kvs.map fun e => if nk e.1 = k then (e.1, d) else e)
  | _, _, .nil => .nil
  | _, _, .cons (kd := kd) h1 h2 r1 r2 t => by
    rw [List.map_cons, List.map_cons]
    by_cases h : nk kd = k
    · rw [if_pos h, if_pos h]
      exact .cons h1 h2 r1 rv (re_map rv t)
    · rw [if_neg h, if_neg h]
      exact .cons h1 h2 r1 r2 (re_map rv t)
theorem re_app : ∀ {es fs : List Ent} {ks ls : List (D × D)}, RE B H es ks → RE B H fs ls → RE B H (es ++ fs) (ks ++ ls)
  | _, _, _, _, .nil, h => h
  | _, _, _, _, .cons h1 h2 r1 r2 t, h => .cons h1 h2 r1 r2 (re_app t h)
theorem re_put {es : List Ent} {kvs : List (D × D)} {a : Addr} {kd v' : D} {v : V} (h : RE B H es kvs) (hk : kb kd = true) (hd : (nk kd).depth ≤ 8) (ra : R B H (.ref a) kd) (rv : R B H v v') : RE B H (ePut es (nk kd) a v) (dPut kvs kd v') := by
  unfold ePut dPut
  rcases re_find (nk kd) h with ⟨h1, h2⟩ | ⟨u, d, h1, h2, _⟩
  · rw [h1, h2]
    exact re_app h (.cons hk hd ra rv .nil)
  · rw [h1, h2]
    exact re_map rv h
theorem re_get : ∀ {es : List Ent} {kvs : List (D × D)} {i : Nat} {e : Ent}, RE B H es kvs → es[i]? = some e → ∃ kd vd, kvs[i]? = some (kd, vd) ∧ R B H (.ref e.2.1) kd ∧ R B H e.2.2 vd
  | _, _, _, _, .nil, h => by simp at h
  | _, _, 0, _, .cons h1 h2 r1 r2 _, h => by simp at h; subst h; exact ⟨_, _, rfl, r1, r2⟩
  | _, _, i + 1, e, .cons _ _ _ _ t, h => by
    obtain ⟨kd, vd, g1, g2⟩ := re_get (i := i) (e := e) t (by simpa using h)
    exact ⟨kd, vd, by simpa using g1, g2⟩
theorem KH.at {pp : Addr → Prop} {es : List Ent} (h : KH (B.at pp) H es) : KH B H es := h
theorem walk_nd {d : Addr} {o : Obj} {es : List Ent} : Walk (ItN B d o es) es.length (fun H => Rd H d (nd B.P B.w d o es) ∧ KH B H es) (fun i H v H' => ∃ T e ob, es[i]? = some e ∧ v = .ref T ∧ H T = none ∧ ob.dict = none ∧ H' = upd H T (.frz ob (.tup [.ref e.2.1, e.2.2]))) :=
  ⟨fun i H hi h => ⟨h.1, h.2, hi⟩, fun H h => ⟨h.1, h.2, Nat.le_refl _⟩, fun i H x H' hi h y => y⟩
def pD (e : D × D) : D := .tup [e.1, e.2]
theorem wg_items {kvs : List (D × D)} (h : EG B td Γ (.dn kvs)) : WG B (iItN B td) Γ (kvs.map pD) := fun σ H r Rq q => h σ H r _ fun v H1 e1 rv => by
  obtain ⟨d, o, es, rfl, hd, hn, re⟩ := rv.dn_inv
  have hne : H1 d ≠ none := by rcases hd with z | ⟨_, z⟩ <;> exact some_ne z
  refine ⟨d, o, es, rfl, hd, re_kh re, q _ H1 (fun H' => Rd H' d (nd B.P B.w d o es) ∧ KH B H' es) _ e1 (by rw [List.length_map, ← re_len re]; exact walk_nd) (fun pp' H' ex s => ⟨s.rd (ex d hn hne) hd, ?_⟩) fun pp' i H' x H2 dd ex s hdd y => ?_⟩
  · exact re_kh (B := B.at pp') ((RE.pp ex re).sm s)
  · obtain ⟨T, e, ob, he, rfl, hT, ho, rfl⟩ := y
    obtain ⟨kd, vd, g1, g2, g3⟩ := re_get re he
    rw [List.getElem?_map, g1] at hdd
    cases hdd
    exact ⟨same_new hT, .tup (PT.new ho) (.cons (((R.pp ex g2).sm s).ext (same_new hT)) (.cons (((R.pp ex g3).sm s).ext (same_new hT)) .nil))⟩
theorem cg_lenN {kvs : List (D × D)} : CG B (rLenN B) [.dn kvs] (.int (kvs.length : Nat)) := fun H xs pq r Q q => by
  obtain ⟨v, rfl, rv⟩ := r.one
  obtain ⟨d, o, es, rfl, hd, hn, re⟩ := rv.dn_inv
  refine ⟨d, o, es, rfl, hd, re_kh re, ?_⟩
  rw [re_len re]
  exact q _ H (Same.refl H) (.int _)
/-- {k: v}, the value without objects that were being made -/
theorem eg_ddisp1 {ds : List D} {vd : D} (hk : EG B tk Γ (.tup ds)) (hv : EG B tv Γ vd) (h1 : kb (.tup ds) = true) (h2 : (nk (.tup ds)).depth ≤ 8) (h3 : fz (.tup ds) = true) (h4 : fz vd = true) : EG B (tDdisp1 B tk tv) Γ (.dn [(.tup ds, vd)]) := fun σ H r Q q p o hp => by
  have e0 : Same H (upd H p (nd B.P B.w p o [])) := same_new hp
  refine hk σ _ (r.ext e0) _ fun x H1 e1 rx => hv σ H1 ((r.ext e0).ext e1) _ fun v H2 e2 rv => ?_
  obtain ⟨a, xs, rfl, hx, rxs⟩ := rx.tup_inv
  have hp2 : H2 p = some (nd B.P B.w p o []) := e2 _ _ (e1 _ _ upd_same)
  have rk : R B H2 (.ref a) (.tup ds) := rx.ext e2
  refine ⟨a, nk (.tup ds), rfl, hp2, ⟨B.pp, _, h1, h2, rfl, rk⟩, fun o' => q _ _ (same_mut (e0.trans (e1.trans e2)) hp) ?_⟩
  have tk : Tk B H2 (upd H2 p (nd B.P B.w p o' [(nk (.tup ds), a, v)])) := tk_upd hp2 fun _ _ z => nomatch z
  exact .dn (.inl upd_same) (r.pp.new hp) (.cons h1 h2 (rk.frz tk h3) (rv.frz tk h4) .nil)
/-! a dict of one's own -/
def DJ (B : Bs) (p : Addr) (kvs : List (D × D)) (H : Hp) : Prop := ∃ o es, H p = some (nd B.P B.w p o es) ∧ RE (B.op p) H es kvs
theorem RE.ext {H' : Hp} {es : List Ent} {kvs : List (D × D)} (r : RE B H es kvs) (e : Same H H') : RE B H' es kvs := r.sm (.of e)
theorem dj_stb {p : Addr} : Stb (DJ B p) := fun m H H' e ⟨o, es, h, r⟩ => ⟨o, es, e _ _ h, r.ext e⟩
theorem RE.shut {p : Addr} {es : List Ent} {kvs : List (D × D)} (r : RE (B.op p) H es kvs) : RE B H es kvs := RE.pp (B := B.op p) (pp' := B.pp) (fun a n _ z => n (.inl z)) r
theorem DJ.data {p : Addr} {kvs : List (D × D)} (hn : ¬ B.pp p) (j : DJ B p kvs H) : R B H (.ref p) (.dn kvs) := let ⟨o, es, h, r⟩ := j; .dn (.inl h) hn r.shut
/-- xs = {}; then what fills it; then the rest -/
theorem sg_openD {i : Nat} {t u : TS} {O : Out → Prop} (h : ∀ p, ¬ B.pp p → SI (B.op p) p (R B) (DJ B p) t (Γ.set i (some (raw p))) [] (fun o => match o with
    | .nx Γ' ds => SG B u (Γ'.set i (some (.dn ds))) O ∧ Γ'[i]? = some (some (raw p))
    | .rt d _ => O (.rt d)
    | .bk _ _ => False
    | .ct _ _ => False)) : SG B (tSeq (tAsg (tDnew B) (gName i)) (tSeq t u)) Γ O := fun σ H E r n q b c p ob hp => by
  have hn := r.pp.new hp
  have e0 : Same H (upd H p (nd B.P B.w p ob [])) := same_new hp
  have r0 : Rep (B.op p) (upd H p (nd B.P B.w p ob [])) (σ.set i (some (.ref p))) (Γ.set i (some (raw p))) := (r.opn hp e0 (by rw [upd_same]; exact fun z => nomatch z)).set i (.raw _)
  refine h p hn _ _ { E with nx := u E } r0 ⟨ob, [], upd_same, .nil⟩ (fun σ' H' Γ' ds s j r' o => ?_) (fun v H' d ds s j r' o => q v H' d (Sp.same_from e0 s hp) r' o) (fun _ _ _ _ _ _ _ o => o.elim) (fun _ _ _ _ _ _ _ o => o.elim)
  obtain ⟨o1, o2⟩ := o
  have s0 := Sp.same_from e0 s hp
  obtain ⟨v, hv, rv⟩ := r'.at_ i _ o2
  obtain rfl := rv.raw_inv
  have r2 : Rep B H' σ' (Γ'.set i (some (.dn ds))) := by
    have z := (r'.shut).set i (j.data hn)
    have e : σ'.set i (some (.ref p)) = σ' := by
      obtain ⟨h1, h2⟩ := List.getElem?_eq_some_iff.mp hv
      rw [← h2]
      exact List.set_getElem_self h1
    rw [e] at z
    exact z
  exact o1 σ' H' E r2 (fun σ2 H2 Γ2 e2 r2 o2 => n σ2 H2 Γ2 (s0.trans e2) r2 o2) (fun v H2 d e2 r2 o2 => q v H2 d (s0.trans e2) r2 o2) (fun σ2 H2 Γ2 e2 r2 o2 => b σ2 H2 Γ2 (s0.trans e2) r2 o2) fun σ2 H2 Γ2 e2 r2 o2 => c σ2 H2 Γ2 (s0.trans e2) r2 o2
/-- d[k] = f(d.get(k, x), ..): the value read with the dict as it is, then stored -/
theorem si_putD {p : Addr} {i : Nat} {tv tk' : TE} {ds : List D} {kvs : List (D × D)} {vd : D} {Rr : Hp → V → D → Prop} {O : OutI (List (D × D)) → Prop} (hi : Γ[i]? = some (some (raw p))) (hv : ∀ (σ : L2.St) (H : Hp), Rep (B.op p) H σ Γ → DJ B p kvs H → ∀ Q : VK, (∀ v H', Same H H' → R (B.op p) H' v vd → Q v H') → tv σ H Q)
    (hk : EG (B.op p) tk' Γ (.tup ds)) (h1 : kb (.tup ds) = true) (h2 : (nk (.tup ds)).depth ≤ 8) (hl : kvs.length < 100000) (o : O (.nx Γ (dPut kvs (.tup ds) vd))) : SI (B.op p) p Rr (DJ B p) (tAsg tv (gSub (tVar i) tk' (rSetN B))) Γ kvs O := fun σ H E r j n q b c => by
  refine hv σ H r j _ fun v H1 e1 rv => ?_
  obtain ⟨w, hw, rw'⟩ := r.at_ i _ hi
  obtain rfl := rw'.raw_inv
  refine ⟨_, hw, hk σ H1 (r.ext e1) _ fun x H2 e2 rx => ?_⟩
  obtain ⟨ob, es, hd, re⟩ := j
  obtain ⟨a, xs, rfl, hx, rxs⟩ := rx.tup_inv
  have re2 := re.ext (e1.trans e2)
  refine ⟨a, p, ob, es, nk (.tup ds), rfl, rfl, e2 _ _ (e1 _ _ hd), re_kh (B := B.op p) re2, ⟨(B.op p).pp, _, h1, h2, rfl, rx⟩, by rw [re_len re]; exact hl, fun o' => ?_⟩
  have s1 : Sp p H2 (upd H2 p (nd B.P B.w p o' (ePut es (nk (.tup ds)) a v))) := Sp.upd (e2 _ _ (e1 _ _ hd)) fun _ _ z => nomatch z
  exact n σ _ Γ _ ((Sp.of (e1.trans e2)).trans s1) ⟨o', _, upd_same, (re_put re2 h1 h2 rx (rv.ext e2)).sm (s1.sm op_pp)⟩ ((r.ext (e1.trans e2)).sm (s1.sm op_pp)) o
/-- d.get(k, x) of it -/
theorem ev_getD {p : Addr} {i : Nat} {tk' tx' : TE} {ds : List D} {kvs : List (D × D)} {xd : D} (hi : Γ[i]? = some (some (raw p))) (hk : EG (B.op p) tk' Γ (.tup ds)) (hx : EG (B.op p) tx' Γ xd) (h1 : kb (.tup ds) = true) (h2 : (nk (.tup ds)).depth ≤ 8) :
    ∀ (σ : L2.St) (H : Hp), Rep (B.op p) H σ Γ → DJ B p kvs H → ∀ Q : VK, (∀ v H', Same H H' → R (B.op p) H' v ((dFind kvs (nk (.tup ds))).getD xd) → Q v H') → tNdGet B (tVar i) tk' tx' σ H Q := fun σ H r j Q q => by
  obtain ⟨w, hw, rw'⟩ := r.at_ i _ hi
  obtain rfl := rw'.raw_inv
  obtain ⟨ob, es, hd, re⟩ := j
  refine ⟨_, hw, ⟨p, ob, es, rfl, .inl hd⟩, hk σ H r _ fun x H1 e1 rx => hx σ H1 (r.ext e1) _ fun z H2 e2 rz => ?_⟩
  obtain ⟨a, xs, rfl, hxx, rxs⟩ := rx.tup_inv
  have re2 := re.ext (e1.trans e2)
  refine ⟨a, p, ob, es, nk (.tup ds), rfl, rfl, .inl (e2 _ _ (e1 _ _ hd)), re_kh (B := B.op p) re2, ⟨(B.op p).pp, _, h1, h2, rfl, rx.ext e2⟩, q _ _ (e1.trans e2) ?_⟩
  rcases re_find (nk (.tup ds)) re2 with ⟨g1, g2⟩ | ⟨v, d, g1, g2, g3⟩
  · rw [g1, g2]; exact rz
  · rw [g1, g2]; exact g3
end
end Tl
end
section
set_option Elab.async false
set_option linter.all false
set_option maxRecDepth 100000
set_option maxHeartbeats 2000000
set_option autoImplicit false
/-! Lists of one's own: how they come to be, how they are returned. -/
namespace Tl
open PySem PySem.Spec PyProof.Rows L2
section
variable {B : Bs} {p : Addr} {Γ Γ' : Gm} {t u : TS} {te : TE} {t1 t2 t3 : TE}
theorem rep_shutL {H : Hp} {σ : L2.St} {i : Nat} {ds : List D} (hn : ¬ B.pp p) (r : Rep (B.op p) H σ Γ) (j : LJ B p ds H) (hi : Γ[i]? = some (some (raw p))) : Rep B H σ (Γ.set i (some (.lst ds))) := by
  obtain ⟨v, hv, rv⟩ := r.at_ i _ hi
  obtain rfl := rv.raw_inv
  have z := (r.shut).set i (j.data hn)
  have e : σ.set i (some (.ref p)) = σ := by
    obtain ⟨h1, h2⟩ := List.getElem?_eq_some_iff.mp hv
    rw [← h2]
    exact List.set_getElem_self h1
  rw [e] at z
  exact z
theorem rep_shutD {H : Hp} {σ : L2.St} {i : Nat} {ds : List (D × D)} (hn : ¬ B.pp p) (r : Rep (B.op p) H σ Γ) (j : DJ B p ds H) (hi : Γ[i]? = some (some (raw p))) : Rep B H σ (Γ.set i (some (.dn ds))) := by
  obtain ⟨v, hv, rv⟩ := r.at_ i _ hi
  obtain rfl := rv.raw_inv
  have z := (r.shut).set i (j.data hn)
  have e : σ.set i (some (.ref p)) = σ := by
    obtain ⟨h1, h2⟩ := List.getElem?_eq_some_iff.mp hv
    rw [← h2]
    exact List.set_getElem_self h1
  rw [e] at z
  exact z
/-- return of what the list is part of, or the list itself -/
theorem si_retC {i : Nat} {ds : List D} {d : D} {O : OutI (List D) → Prop} (hn : ¬ B.pp p) (hi : Γ[i]? = some (some (raw p))) (h : EG B te (Γ.set i (some (.lst ds))) d) (o : O (.rt d ds)) : SI (B.op p) p (R B) (LJ B p) (tRet te) Γ ds O := fun σ H E r j n q b c =>
  h σ H (rep_shutL hn r j hi) _ fun v H1 e1 r1 => q v H1 d ds (.of e1) (lj_stb _ _ _ e1 j) r1 o
/-- a list is made: its slot i, the rest as in Γ' -/
def Opens (B : Bs) (t : TS) (Γ : Gm) (i : Nat) (Γ' : Gm) : Prop := ∀ (σ : L2.St) (H : Hp) (E : Ends), Rep B H σ Γ → (∀ p σ' H', H p = none → Same H H' → H' p = some (.lst []) → Rep (B.op p) H' σ' (Γ'.set i (some (raw p))) → E.nx σ' H') → t E σ H
/-- the rest runs with it till its return -/
theorem sg_openR {i : Nat} {O : Out → Prop} (ho : Opens B t Γ i Γ') (h : ∀ p, ¬ B.pp p → SI (B.op p) p (R B) (LJ B p) u (Γ'.set i (some (raw p))) [] (fun o => match o with
    | .nx _ _ => False
    | .rt d _ => O (.rt d)
    | .bk _ _ => False
    | .ct _ _ => False)) : SG B (tSeq t u) Γ O := fun σ H E r n q b c => ho σ H { E with nx := u E } r fun p σ' H' hp e hx r' =>
  h p (r.pp.new hp) σ' H' E r' ⟨[], hx, .nil⟩ (fun _ _ _ _ _ _ _ o => o.elim) (fun v H2 d ds s j r2 o => q v H2 d (Sp.same_from e s hp) r2 o) (fun _ _ _ _ _ _ _ o => o.elim) fun _ _ _ _ _ _ _ o => o.elim
/-- a, b, c, xs = x, y, z, [] -/
theorem opens_4 {i1 i2 i3 i4 : Nat} {d1 d2 d3 : D} (h1 : EG B t1 Γ d1) (h2 : EG B t2 Γ d2) (h3 : EG B t3 Γ d3) :
    Opens B (tAsg (tTupF (tCons t1 (tCons t2 (tCons t3 (tCons (tLst tNil) tNil))))) (gTup B.K 4 (gCons (gName i1) (gCons (gName i2) (gCons (gName i3) (gCons (gName i4) gNil)))))) Γ i4 (((Γ.set i1 (some d1)).set i2 (some d2)).set i3 (some d3)) := fun σ H E r n =>
  h1 σ H r _ fun v1 H1 e1 r1 => h2 σ H1 (r.ext e1) _ fun v2 H2 e2 r2 => h3 σ H2 ((r.ext e1).ext e2) _ fun v3 H3 e3 r3 => ⟨by show 0 ≤ sizeLine; omega, fun p hp => ⟨by show 4 ≤ sizeLine; decide, fun a o ha ho => by
    have E3 : Same H H3 := e1.trans (e2.trans e3)
    have E4 : Same H3 (upd H3 p (.lst [])) := same_new hp
    have E5 : Same (upd H3 p (.lst [])) (upd (upd H3 p (.lst [])) a (.frz o (.tup [v1, v2, v3, .ref p]))) := same_new ha
    have hp0 : H p = none := by
      cases q : H p with
      | none => rfl
      | some u => rw [E3 p u q] at hp; cases hp
    refine ⟨a, [v1, v2, v3, .ref p], rfl, (PT.new ho).sq, rfl, v1, _, rfl, v2, _, rfl, v3, _, rfl, .ref p, _, rfl, rfl, ?_⟩
    have r0 : Rep (B.op p) _ σ Γ := ((r.ext E3).opn hp E4 (by rw [upd_same]; exact fun z => nomatch z)).ext E5
    refine n p _ _ hp0 (E3.trans (E4.trans E5)) (E5 _ _ upd_same) ?_
    exact (((r0.set i1 ((((r1.ext (e2.trans e3)).opn hp).ext E4).ext E5)).set i2 ((((r2.ext e3).opn hp).ext E4).ext E5)).set i3 (((r3.opn hp).ext E4).ext E5)).set i4 (.raw _)⟩⟩
/-- xs, a, b = [], x, y -/
theorem opens_3 {i1 i2 i3 : Nat} {d2 d3 : D} (h2 : ∀ p, EG (B.op p) t2 Γ d2) (h3 : ∀ p, EG (B.op p) t3 Γ d3) (hi : i1 ≠ i2) (hi' : i1 ≠ i3) : Opens B (tPar3 i1 i2 i3 (tCons (tLst tNil) (tCons t2 (tCons t3 tNil)))) Γ i1 ((Γ.set i2 (some d2)).set i3 (some d3)) := fun σ H E r n =>
  ⟨by show 0 ≤ sizeLine; omega, fun p hp => by
    have E4 : Same H (upd H p (.lst [])) := same_new hp
    have r0 : Rep (B.op p) _ σ Γ := r.opn hp E4 (by rw [upd_same]; exact fun z => nomatch z)
    refine h2 p σ _ r0 _ fun v2 H2 e2 r2 => h3 p σ H2 (r0.ext e2) _ fun v3 H3 e3 r3 => ⟨.ref p, v2, v3, rfl, ?_⟩
    refine n p _ _ hp (E4.trans (e2.trans e3)) (e3 _ _ (e2 _ _ upd_same)) ?_
    have z := (((((r0.ext e2).ext e3).set i1 (.raw (.ref p))).set i2 (r2.ext e3)).set i3 r3)
    have eG : ((Γ.set i1 (some (raw p))).set i2 (some d2)).set i3 (some d3) = ((Γ.set i2 (some d2)).set i3 (some d3)).set i1 (some (raw p)) := by rw [List.set_comm _ _ hi, List.set_comm _ _ hi']
    rw [← eG]
    exact z⟩
/-- xs = [] -/
theorem opens_1 {i : Nat} : Opens B (tAsg (tLst tNil) (gName i)) Γ i Γ := fun σ H E r n => ⟨by show 0 ≤ sizeLine; omega, fun p hp => by
  have E4 : Same H (upd H p (.lst [])) := same_new hp
  exact n p _ _ hp E4 upd_same ((r.opn hp E4 (by rw [upd_same]; exact fun z => nomatch z)).set i (.raw _))⟩
end
/-! a list or a tuple, walked -/
def iLT (K : PySem.W.Frag) (te : TE) : TI := fun σ H Rr => te σ H fun v H1 => (∃ a, v = .ref a ∧ (∃ xs, SqL K H1 a xs) ∧ Rr (Itl K a) H1) ∨ (∃ a, v = .ref a ∧ (∃ xs, SqT K H1 a xs) ∧ Rr (Itt K a) H1)
section
variable {X : Cx} {K : PySem.W.Frag} {tg l : Expr} {tl : TE}
theorem k_lt (hK : X.K = K) (hl : PE X l tl) : PI X tg l (iLT K tl) := by
  subst hK
  refine ⟨fun pins s σ H Rr I h => ?_⟩
  refine thn (hl.run pins s σ H _ I h) fun v s1 hh => ?_
  obtain ⟨x, H1, I1, r1, ⟨a, rfl, ⟨xs, hq⟩, q⟩ | ⟨a, rfl, ⟨xs, hq⟩, q⟩⟩ := hh
  · obtain rfl : v = Value.ref a := r1
    obtain ⟨its, rv, pl, hz⟩ := I1.list hq
    refine wpAny_pyIter_list pl.isList (pi_one (tk := s1.toks) I1 _ (turn_list a _) ⟨_, Heap.get?_push_size _ rfl, rfl, rfl⟩ q)
  · obtain rfl : v = Value.ref a := r1
    obtain ⟨its, rv, pl, hz⟩ := I1.tuple hq
    refine wpAny_pyIter_tuple (show s1.heap.IsTuple a its.toArray from pl) (pi_one (tk := s1.toks) I1 _ (turn_tuple a _) ⟨_, Heap.get?_push_size _ rfl, rfl, rfl⟩ q)
end
theorem wg_ltL {B : Bs} {Γ : Gm} {te : TE} {ds : List D} (h : EG B te Γ (.lst ds)) : WG B (iLT B.K te) Γ ds := fun σ H r Rq q => h σ H r _ fun v H1 e1 r1 => by
  obtain ⟨a, xs, rfl, hx, rx⟩ := r1.lst_inv
  refine .inl ⟨a, rfl, ⟨xs, SqL.of hx⟩, q _ H1 (fun H' => SqL B.K H' a xs) (YAt xs) e1 (by rw [← rx.length]; exact walk_list) (fun pp' H' ex s => SqL.of (s.off a _ (ex a r1.lst_off (some_ne hx)) hx)) fun pp' i H' x H2 d ex s hd y => ?_⟩
  obtain ⟨rfl, hy⟩ := y
  obtain ⟨v, hv, rv⟩ := rx.get hd
  rw [hy] at hv
  cases hv
  exact ⟨Same.refl _, (R.pp ex rv).sm s⟩
theorem wg_ltT {B : Bs} {Γ : Gm} {te : TE} {ds : List D} (h : EG B te Γ (.tup ds)) : WG B (iLT B.K te) Γ ds := fun σ H r Rq q => h σ H r _ fun v H1 e1 r1 => by
  obtain ⟨a, xs, rfl, hx, rx⟩ := r1.tup_inv
  refine .inr ⟨a, rfl, ⟨xs, hx.sq⟩, q _ H1 (fun H' => SqT B.K H' a xs) (YAt xs) e1 (by rw [← rx.length]; exact walk_tup) (fun pp' H' ex s => (s.pt hx).sq) fun pp' i H' x H2 d ex s hd y => ?_⟩
  obtain ⟨rfl, hy⟩ := y
  obtain ⟨v, hv, rv⟩ := rx.get hd
  rw [hy] at hv
  cases hv
  exact ⟨Same.refl _, (R.pp ex rv).sm s⟩
end Tl
end
section
set_option Elab.async false
set_option linter.all false
set_option autoImplicit false
set_option maxRecDepth 100000
/-! The walk of a search, plainly. -/
namespace Tl
open PySem PySem.Spec PyProof.Rows L2
abbrev Stp := Str × List Int
def keyAt (T : Tw) (i : Nat) : Int := ((T[i]?).map (·.1)).getD 0
def wkS (T : Tw) (key : Int) (ln el : Bool) : Nat → Nat → Nat → Option Nat → List Stp
  | 0, _, _, _ => []
  | _ + 1, 0, b, _ => match nxt T b 1 with
    | none => []
    | some i => if el = true then [] else [("look", [keyAt T i])]
  | f + 1, l + 1, b, met => match nxt T b ((l + 1 : Nat) : Int) with
    | none => ("end", [((l + 1 : Nat) : Int)]) :: wkS T key ln el f l b none
    | some i => if (decide (met = some i) && ln) = true then ("same", [((l + 1 : Nat) : Int), keyAt T i]) :: wkS T key ln el f l b (some i)
      else if keyAt T i < key then ("right", [((l + 1 : Nat) : Int), keyAt T i]) :: wkS T key ln el f (l + 1) (i + 1) met
      else if (decide (keyAt T i = key) && el) = true then [("found", [((l + 1 : Nat) : Int), key])]
      else ("stop", [((l + 1 : Nat) : Int), keyAt T i]) :: wkS T key ln el f l b (some i)
def cwd (w : Str) : Bool := inV (.str w) [.str "right", .str "stop", .str "look", .str "found"]
/-- all steps of a search from the top -/
def wkAll (T : Tw) (key : Int) (ln el : Bool) : List Stp := wkS T key ln el ((hi T).toNat + T.length + 1) (hi T).toNat 0 none
def cst (T : Tw) (key : Int) (ln el : Bool) : Nat := ((wkAll T key ln el).filter fun s => cwd s.1).length
def cnt (l : List Stp) : Nat := (l.filter fun s => cwd s.1).length
theorem cnt_nil : cnt [] = 0 := rfl
theorem cnt_cons (s : Stp) (l : List Stp) : cnt (s :: l) = (if cwd s.1 = true then 1 else 0) + cnt l := by
  unfold cnt
  rw [List.filter_cons]
  split
  · rw [List.length_cons]; omega
  · omega
theorem wkS_len (T : Tw) (key : Int) (ln el : Bool) : ∀ (f l b : Nat) (met : Option Nat), (wkS T key ln el f l b met).length ≤ f
  | 0, _, _, _ => Nat.le_refl 0
  | f + 1, 0, b, met => by
    unfold wkS
    split
    · simp
    · split <;> simp
  | f + 1, l + 1, b, met => by
    have h1 := wkS_len T key ln el f l b none
    unfold wkS
    split
    · rw [List.length_cons]; omega
    · rename_i i _
      have h2 := wkS_len T key ln el f l b (some i)
      have h3 := wkS_len T key ln el f (l + 1) (i + 1) met
      split
      · rw [List.length_cons]; omega
      · split
        · rw [List.length_cons]; omega
        · split
          · simp
          · rw [List.length_cons]; omega
theorem cst_le (T : Tw) (key : Int) (ln el : Bool) : cst T key ln el ≤ (hi T).toNat + T.length + 1 := Nat.le_trans (List.length_filter_le _ _) (wkS_len T key ln el _ _ _ _)
end Tl
end
section
set_option linter.all false
set_option autoImplicit false
/-! The plain law: values of towers, means of plans. -/
namespace Tl
/-- the mean of f over towers with their shares -/
def mn (f : Tw → Rat) (xs : List (Tw × Rat)) : Rat := (xs.map fun x => x.2 * f x.1).sum
theorem mn_nil (f : Tw → Rat) : mn f [] = 0 := rfl
theorem mn_cons (f : Tw → Rat) (x : Tw × Rat) (xs : List (Tw × Rat)) : mn f (x :: xs) = x.2 * f x.1 + mn f xs := by
  unfold mn
  rw [List.map_cons, List.sum_cons]
theorem mn_app (f : Tw → Rat) : ∀ xs ys : List (Tw × Rat), mn f (xs ++ ys) = mn f xs + mn f ys
  | [], ys => by rw [List.nil_append, mn_nil, Rat.zero_add]
  | x :: xs, ys => by rw [List.cons_append, mn_cons, mn_cons, mn_app f xs ys, Rat.add_assoc]
theorem mn_mono {f g : Tw → Rat} : ∀ {xs : List (Tw × Rat)}, (∀ x ∈ xs, 0 ≤ x.2) → (∀ x ∈ xs, f x.1 ≤ g x.1) → mn f xs ≤ mn g xs
  | [], _, _ => Rat.le_refl
  | x :: xs, h0, h => by
    rw [mn_cons, mn_cons]
    have h1 := mn_mono (fun y hy => h0 y (List.mem_cons_of_mem _ hy)) fun y hy => h y (List.mem_cons_of_mem _ hy)
    have h2 := Rat.mul_le_mul_of_nonneg_left (h x List.mem_cons_self) (h0 x List.mem_cons_self)
    grind
theorem mn_one (f : Tw → Rat) (T : Tw) : mn f [(T, 1)] = f T := by
  rw [mn_cons, mn_nil, Rat.add_zero, Rat.one_mul]
/-- shares times a share -/
def shd (s : Rat) (xs : List (Tw × Rat)) : List (Tw × Rat) := xs.map fun y => (y.1, s * y.2)
theorem mn_shd (f : Tw → Rat) (s : Rat) : ∀ xs : List (Tw × Rat), mn f (shd s xs) = s * mn f xs
  | [] => by rw [mn_nil, Rat.mul_zero]; rfl
  | x :: xs => by
    have h := mn_shd f s xs
    show mn f ((x.1, s * x.2) :: shd s xs) = _
    rw [mn_cons, mn_cons, h, Rat.mul_add, Rat.mul_assoc]
/-! the first greatest one of deeds -/
def pk (f : Deed → Rat) : List Deed → Rat × Option Deed → Rat × Option Deed
  | [], a => a
  | d :: ds, a => pk f ds (if a.1 < f d then (f d, some d) else a)
theorem pk_ge (f : Deed → Rat) : ∀ (ds : List Deed) (a : Rat × Option Deed), a.1 ≤ (pk f ds a).1
  | [], a => Rat.le_refl
  | d :: ds, a => by
    have h := pk_ge f ds (if a.1 < f d then (f d, some d) else a)
    unfold pk
    split at h <;> grind
theorem pk_mem (f : Deed → Rat) : ∀ (ds : List Deed) (a : Rat × Option Deed), ∀ d ∈ ds, f d ≤ (pk f ds a).1
  | e :: ds, a, d, h => by
    unfold pk
    rcases List.mem_cons.mp h with z | h
    · have h := pk_ge f ds (if a.1 < f e then (f e, some e) else a)
      subst z
      split at h <;> grind
    · exact pk_mem f ds _ d h
theorem pk_is (f : Deed → Rat) : ∀ (ds : List Deed) (a : Rat × Option Deed), (pk f ds a).1 = a.1 ∨ ∃ d ∈ ds, (pk f ds a).1 = f d
  | [], a => .inl rfl
  | e :: ds, a => by
    unfold pk
    rcases pk_is f ds (if a.1 < f e then (f e, some e) else a) with h | ⟨d, hd, h⟩
    · rw [h]
      split
      · exact .inr ⟨e, List.mem_cons_self, rfl⟩
      · exact .inl rfl
    · exact .inr ⟨d, List.mem_cons_of_mem _ hd, h⟩
theorem pk_le {f : Deed → Rat} {ds : List Deed} {a : Rat × Option Deed} {b : Rat} (h0 : a.1 ≤ b) (h : ∀ d ∈ ds, f d ≤ b) : (pk f ds a).1 ≤ b := by
  rcases pk_is f ds a with e | ⟨d, hd, e⟩
  · rw [e]; exact h0
  · rw [e]; exact h d hd
/-- the deeds that a looker can choose -/
def dds (own : List Int) (T : Tw) : List Deed := (own.filter fun k => decide (k ∉ T.map (·.1))).map (fun k => (true, k)) ++ (own.filter fun k => decide (k ∈ T.map (·.1))).map fun k => (false, k)
theorem dds_mem {own : List Int} {T : Tw} {d : Deed} : d ∈ dds own T ↔ d.2 ∈ own ∧ (d.1 = true ↔ d.2 ∉ T.map (·.1)) := by
  obtain ⟨w, k⟩ := d
  unfold dds
  rw [List.mem_append, List.mem_map, List.mem_map]
  constructor
  · rintro (⟨x, hx, e⟩ | ⟨x, hx, e⟩)
    · obtain ⟨h1, h2⟩ := List.mem_filter.mp hx
      cases e
      exact ⟨h1, fun _ => of_decide_eq_true h2, fun _ => rfl⟩
    · obtain ⟨h1, h2⟩ := List.mem_filter.mp hx
      cases e
      exact ⟨h1, fun z => absurd z Bool.false_ne_true, fun z => absurd (of_decide_eq_true h2) z⟩
  · rintro ⟨h1, h2⟩
    cases w with
    | true => exact .inl ⟨k, List.mem_filter.mpr ⟨h1, decide_eq_true (h2.mp rfl)⟩, rfl⟩
    | false => exact .inr ⟨k, List.mem_filter.mpr ⟨h1, decide_eq_true (Decidable.byContradiction fun z => absurd (h2.mpr z) Bool.false_ne_true)⟩, rfl⟩
theorem aft_none {own : List Int} {T : Tw} {d : Deed} {p : Rat} {c : Bool} {m : Int} (h : d.2 ∈ own) (n : d ∉ dds own T) : aft T d p c m = [(T, 1)] := by
  obtain ⟨w, k⟩ := d
  unfold aft
  cases w with
  | true =>
    have hk : k ∈ T.map (·.1) := Decidable.byContradiction fun z => n (dds_mem.mpr ⟨h, fun _ => z, fun _ => rfl⟩)
    rw [if_pos rfl, if_pos hk]
  | false =>
    have hk : k ∉ T.map (·.1) := fun z => n (dds_mem.mpr ⟨h, fun y => absurd y Bool.false_ne_true, fun y => absurd z y⟩)
    rw [if_neg Bool.false_ne_true, del_none hk]
section
variable (C : Tw → Nat) (own : List Int) (p : Rat) (c : Bool) (m : Int)
/-- the value of towers with so many deeds left, and the first best deed -/
def vl : Nat → Tw → Rat × Option Deed
  | 0, T => ((C T : Rat), none)
  | n + 1, T => pk (fun d => mn (fun S => (vl n S).1) (aft T d p c m)) (dds own T) ((C T : Rat), none)
/-- the mean of a plan -/
def mh : List Deed → Tw → Rat
  | [], T => (C T : Rat)
  | d :: h, T => mn (mh h) (aft T d p c m)
variable {C own p c m}
theorem shr_nonneg (h0 : 0 ≤ p) (h1 : p ≤ 1) (h e : Nat) : 0 ≤ shr p h e := by
  unfold shr
  have hp : 0 ≤ p ^ (h - 1) := Rat.pow_nonneg h0
  split
  · exact hp
  · exact Rat.mul_nonneg hp (by grind)
theorem aft_nonneg (h0 : 0 ≤ p) (h1 : p ≤ 1) {T : Tw} {d : Deed} : ∀ x ∈ aft T d p c m, 0 ≤ x.2 := by
  intro x hx
  unfold aft at hx
  split at hx
  · split at hx
    · rw [List.mem_singleton.mp hx]
      show (0 : Rat) ≤ 1
      decide
    · unfold frs at hx
      obtain ⟨i, _, rfl⟩ := List.mem_map.mp hx
      exact shr_nonneg h0 h1 _ _
  · rw [List.mem_singleton.mp hx]
    show (0 : Rat) ≤ 1
    decide
theorem vl_mono (h0 : 0 ≤ p) (h1 : p ≤ 1) : ∀ (n : Nat) (T : Tw), (vl C own p c m n T).1 ≤ (vl C own p c m (n + 1) T).1
  | 0, T => pk_ge _ (dds own T) ((C T : Rat), none)
  | n + 1, T => by
    refine pk_le (f := fun d => mn (fun S => (vl C own p c m n S).1) (aft T d p c m)) (pk_ge _ (dds own T) ((C T : Rat), none)) fun d hd => ?_
    exact Rat.le_trans (mn_mono (aft_nonneg h0 h1) fun x _ => vl_mono h0 h1 n x.1) (pk_mem _ (dds own T) _ d hd)
theorem vl_le (h0 : 0 ≤ p) (h1 : p ≤ 1) (T : Tw) {n k : Nat} (h : n ≤ k) : (vl C own p c m n T).1 ≤ (vl C own p c m k T).1 := by
  induction h with
  | refl => exact Rat.le_refl
  | step _ ih => exact Rat.le_trans ih (vl_mono h0 h1 _ T)
theorem mh_le (h0 : 0 ≤ p) (h1 : p ≤ 1) : ∀ (h : List Deed) (T : Tw), (∀ d ∈ h, d.2 ∈ own) → mh C p c m h T ≤ (vl C own p c m h.length T).1
  | [], T, _ => Rat.le_refl
  | d :: h, T, ho => by
    have ih := fun S => mh_le h0 h1 h S fun e he => ho e (List.mem_cons_of_mem _ he)
    show mn (mh C p c m h) (aft T d p c m) ≤ _
    by_cases hd : d ∈ dds own T
    · exact Rat.le_trans (mn_mono (aft_nonneg h0 h1) fun x _ => ih x.1) (pk_mem (fun d => mn (fun S => (vl C own p c m h.length S).1) (aft T d p c m)) (dds own T) ((C T : Rat), none) d hd)
    · rw [aft_none (ho d List.mem_cons_self) hd, mn_one]
      exact Rat.le_trans (ih T) (vl_mono h0 h1 _ T)
theorem vl_0 (T : Tw) : (vl C own p c m 0 T).1 = mh C p c m [] T := rfl
theorem vl_1 (T : Tw) : (vl C own p c m 1 T).1 = mh C p c m [] T ∨ ∃ d ∈ dds own T, (vl C own p c m 1 T).1 = mh C p c m [d] T := pk_is _ (dds own T) ((C T : Rat), none)
end
/-! plans -/
def kds (T : Tw) (k : Int) : List (List Deed) := if k ∈ T.map (·.1) then [[], [(false, k)], [(false, k), (true, k)]] else [[], [(true, k)]]
def wid (T : Tw) (k : Int) (ps : List (List Deed)) : List (List Deed) := ps.flatMap fun s => (kds T k).map fun w => s ++ w
def plz (T : Tw) : List Int → List (List Deed) → List (List Deed)
  | [], ps => ps
  | k :: ks, ps => plz T ks (wid T k ps)
theorem kds_nil (T : Tw) (k : Int) : [] ∈ kds T k := by unfold kds; split <;> simp
theorem wid_mem {T : Tw} {k : Int} {ps : List (List Deed)} {h : List Deed} : h ∈ wid T k ps ↔ ∃ s ∈ ps, ∃ w ∈ kds T k, h = s ++ w := by
  unfold wid
  rw [List.mem_flatMap]
  constructor
  · rintro ⟨s, hs, hm⟩
    obtain ⟨w, hw, rfl⟩ := List.mem_map.mp hm
    exact ⟨s, hs, w, hw, rfl⟩
  · rintro ⟨s, hs, w, hw, rfl⟩
    exact ⟨s, hs, List.mem_map.mpr ⟨w, hw, rfl⟩⟩
theorem wid_keep {T : Tw} {k : Int} {ps : List (List Deed)} {h : List Deed} (hh : h ∈ ps) : h ∈ wid T k ps := wid_mem.mpr ⟨h, hh, [], kds_nil T k, (List.append_nil h).symm⟩
theorem plz_keep {T : Tw} : ∀ {ks : List Int} {ps : List (List Deed)} {h : List Deed}, h ∈ ps → h ∈ plz T ks ps
  | [], _, _, hh => hh
  | k :: ks, ps, h, hh => plz_keep (ks := ks) (wid_keep hh)
theorem plz_one {T : Tw} {d : Deed} : ∀ {ks : List Int} {ps : List (List Deed)}, [] ∈ ps → d ∈ dds ks T → [d] ∈ plz T ks ps
  | [], _, _, hd => absurd (dds_mem.mp hd).1 List.not_mem_nil
  | k :: ks, ps, hn, hd => by
    obtain ⟨h1, h2⟩ := dds_mem.mp hd
    rcases List.mem_cons.mp h1 with e | h1
    · refine plz_keep (ks := ks) (wid_mem.mpr ⟨[], hn, [d], ?_, rfl⟩)
      obtain ⟨w, x⟩ := d
      cases e
      unfold kds
      cases w with
      | true => rw [if_neg (h2.mp rfl)]; simp
      | false => rw [if_pos (Decidable.byContradiction fun z => absurd (h2.mpr z) Bool.false_ne_true)]; simp
    · exact plz_one (ks := ks) (wid_keep hn) (dds_mem.mpr ⟨h1, h2⟩)
/-- how many towers a plan puts in -/
def nin (h : List Deed) : Nat := (h.filter fun d => d.1).length
theorem nin_app (a b : List Deed) : nin (a ++ b) = nin a + nin b := by unfold nin; rw [List.filter_append, List.length_append]
theorem kds_ok {T : Tw} {k : Int} {w : List Deed} (h : w ∈ kds T k) : (∀ d ∈ w, d.2 = k) ∧ nin w ≤ 1 ∧ w.length ≤ 2 := by
  unfold kds at h
  split at h
  · simp only [List.mem_cons, List.not_mem_nil, or_false] at h
    rcases h with h | h | h <;> subst h <;> simp [nin]
  · simp only [List.mem_cons, List.not_mem_nil, or_false] at h
    rcases h with h | h <;> subst h <;> simp [nin]
theorem plz_ok {T : Tw} {own : List Int} : ∀ {ks : List Int} {ps : List (List Deed)} {N : Nat}, (∀ k ∈ ks, k ∈ own) → (∀ h ∈ ps, (∀ d ∈ h, d.2 ∈ own) ∧ nin h ≤ N ∧ h.length ≤ 2 * N) → ∀ h ∈ plz T ks ps, (∀ d ∈ h, d.2 ∈ own) ∧ nin h ≤ N + ks.length ∧ h.length ≤ 2 * (N + ks.length)
  | [], ps, N, _, hp, h, hh => hp h hh
  | k :: ks, ps, N, hk, hp, h, hh => by
    have z := plz_ok (N := N + 1) (fun x hx => hk x (List.mem_cons_of_mem _ hx)) (fun h hh => by
      obtain ⟨s, hs, w, hw, rfl⟩ := wid_mem.mp hh
      obtain ⟨a1, a2, a3⟩ := hp s hs
      obtain ⟨b1, b2, b3⟩ := kds_ok hw
      refine ⟨fun d hd => ?_, by rw [nin_app]; omega, by rw [List.length_append]; omega⟩
      rcases List.mem_append.mp hd with hd | hd
      · exact a1 d hd
      · rw [b1 d hd]; exact hk k List.mem_cons_self) h hh
    rw [List.length_cons]
    exact ⟨z.1, by have := z.2.1; omega, by have := z.2.2; omega⟩
theorem wid_len (T : Tw) (k : Int) : ∀ ps : List (List Deed), (wid T k ps).length ≤ 3 * ps.length
  | [] => Nat.le_refl _
  | s :: ps => by
    have h := wid_len T k ps
    have e : wid T k (s :: ps) = ((kds T k).map fun w => s ++ w) ++ wid T k ps := rfl
    rw [e, List.length_append, List.length_map, List.length_cons]
    have : (kds T k).length ≤ 3 := by unfold kds; split <;> simp
    omega
theorem plz_len (T : Tw) : ∀ (ks : List Int) (ps : List (List Deed)), (plz T ks ps).length ≤ 3 ^ ks.length * ps.length
  | [], ps => by show ps.length ≤ 1 * ps.length; omega
  | k :: ks, ps => by
    refine Nat.le_trans (plz_len T ks (wid T k ps)) ?_
    rw [List.length_cons, Nat.pow_succ, Nat.mul_assoc]
    exact Nat.mul_le_mul_left _ (wid_len T k ps)
/-! the best plan -/
def bs1 (f : List Deed → Rat) (a : Option (Rat × List Deed)) (h : List Deed) : Option (Rat × List Deed) := match a with
  | none => some (f h, h)
  | some b => if (decide (b.1 < f h) || decide (f h = b.1) && decide (h.length < b.2.length)) = true then some (f h, h) else some b
def lb1 (f : List Deed → Rat) (n : Nat) (a : Option (Rat × Nat)) (h : List Deed) : Option (Rat × Nat) := if h.length ≤ n then (match a with
  | none => some (f h, h.length)
  | some b => if (decide (b.1 < f h) || decide (f h = b.1) && decide (h.length < b.2)) = true then some (f h, h.length) else some b) else a
def cut (n : Nat) (hs : List (List Deed)) : List (List Deed) := hs.filter fun h => decide (h.length ≤ n)
theorem lb_eq (f : List Deed → Rat) (n : Nat) : ∀ (hs : List (List Deed)) (a : Option (Rat × List Deed)), hs.foldl (lb1 f n) (a.map fun b => (b.1, b.2.length)) = ((cut n hs).foldl (bs1 f) a).map fun b => (b.1, b.2.length)
  | [], a => rfl
  | h :: hs, a => by
    unfold cut
    rw [List.foldl_cons, List.filter_cons]
    by_cases hl : h.length ≤ n
    · rw [if_pos (decide_eq_true hl), List.foldl_cons, ← cut.eq_def, ← lb_eq f n hs]
      congr 1
      unfold lb1 bs1
      rw [if_pos hl]
      cases a with
      | none => rfl
      | some b =>
        show (if _ then _ else _) = Option.map _ (if _ then _ else _)
        split <;> rfl
    · rw [if_neg (by simpa using hl), ← cut.eq_def, ← lb_eq f n hs]
      congr 1
      unfold lb1
      rw [if_neg hl]
theorem bs_some (f : List Deed → Rat) : ∀ (hs : List (List Deed)) (g : List Deed), ∃ h, (h = g ∨ h ∈ hs) ∧ hs.foldl (bs1 f) (some (f g, g)) = some (f h, h) ∧ f g ≤ f h ∧ ∀ k ∈ hs, f k ≤ f h
  | [], g => ⟨g, .inl rfl, rfl, Rat.le_refl, fun k hk => absurd hk List.not_mem_nil⟩
  | e :: hs, g => by
    rw [List.foldl_cons]
    unfold bs1
    dsimp only
    split
    · rename_i hc
      obtain ⟨h, h1, h2, h3, h4⟩ := bs_some f hs e
      have hge : f g ≤ f e := by
        rcases Bool.or_eq_true _ _ ▸ hc with z | z
        · have := of_decide_eq_true z
          grind
        · have := of_decide_eq_true (Bool.and_eq_true _ _ ▸ z).1
          grind
      refine ⟨h, ?_, h2, Rat.le_trans hge h3, fun k hk => ?_⟩
      · rcases h1 with z | z
        · exact .inr (z ▸ List.mem_cons_self)
        · exact .inr (List.mem_cons_of_mem _ z)
      · rcases List.mem_cons.mp hk with z | hk
        · rw [z]; exact h3
        · exact h4 k hk
    · rename_i hc
      obtain ⟨h, h1, h2, h3, h4⟩ := bs_some f hs g
      have hge : f e ≤ f g := by
        have : ¬ f g < f e := fun z => hc (by rw [decide_eq_true z]; rfl)
        grind
      refine ⟨h, ?_, h2, h3, fun k hk => ?_⟩
      · rcases h1 with z | z
        · exact .inl z
        · exact .inr (List.mem_cons_of_mem _ z)
      · rcases List.mem_cons.mp hk with z | hk
        · rw [z]; exact Rat.le_trans hge h3
        · exact h4 k hk
theorem bs_best (f : List Deed → Rat) {hs : List (List Deed)} (h0 : hs ≠ []) : ∃ h ∈ hs, hs.foldl (bs1 f) none = some (f h, h) ∧ ∀ k ∈ hs, f k ≤ f h := by
  obtain _ | ⟨g, hs⟩ := hs
  · exact absurd rfl h0
  obtain ⟨h, h1, h2, h3, h4⟩ := bs_some f hs g
  refine ⟨h, ?_, h2, fun k hk => ?_⟩
  · rcases h1 with z | z
    · exact z ▸ List.mem_cons_self
    · exact List.mem_cons_of_mem _ z
  · rcases List.mem_cons.mp hk with z | hk
    · rw [z]; exact h3
    · exact h4 k hk
/-- the blind looker -/
def bl (C : Tw → Nat) (own : List Int) (p : Rat) (c : Bool) (m : Int) (n : Nat) (T : Tw) : Option (Rat × List Deed) := (cut n (plz T own [[]])).foldl (bs1 fun h => mh C p c m h T) none
theorem bl_is (C : Tw → Nat) (own : List Int) {p : Rat} (c : Bool) (m : Int) (n : Nat) (T : Tw) (h0 : 0 ≤ p) (h1 : p ≤ 1) : ∃ h ∈ cut n (plz T own [[]]), bl C own p c m n T = some (mh C p c m h T, h) ∧ mh C p c m h T ≤ (vl C own p c m n T).1 ∧ (n ≤ 1 → (vl C own p c m n T).1 = mh C p c m h T) := by
  have hn : [] ∈ cut n (plz T own [[]]) := List.mem_filter.mpr ⟨plz_keep List.mem_cons_self, decide_eq_true (Nat.zero_le n)⟩
  obtain ⟨h, hm, he, hb⟩ := bs_best (fun h => mh C p c m h T) (hs := cut n (plz T own [[]])) (fun z => by rw [z] at hn; cases hn)
  obtain ⟨hp, hl⟩ := List.mem_filter.mp hm
  have ho := (plz_ok (own := own) (N := 0) (fun k hk => hk) (fun h hh => by rw [List.mem_singleton.mp hh]; exact ⟨fun d hd => absurd hd List.not_mem_nil, Nat.le_refl _, Nat.le_refl _⟩) h hp).1
  have hv : mh C p c m h T ≤ (vl C own p c m n T).1 := Rat.le_trans (mh_le h0 h1 h T ho) (vl_le h0 h1 T (of_decide_eq_true hl))
  refine ⟨h, hm, he, hv, fun hn1 => ?_⟩
  refine Rat.le_antisymm ?_ hv
  have hc : n = 0 ∨ n = 1 := by omega
  rcases hc with rfl | rfl
  · exact hb [] hn
  · rcases vl_1 (C := C) (own := own) (p := p) (c := c) (m := m) T with e | ⟨d, hd, e⟩
    · rw [e]; exact hb [] hn
    · rw [e]
      exact hb [d] (List.mem_filter.mpr ⟨plz_one List.mem_cons_self hd, decide_eq_true (Nat.le_refl 1)⟩)
/-! the towers behind a plan: a list, a dict -/
section
variable (p : Rat) (c : Bool) (m : Int)
def lst1 (xs : List (Tw × Rat)) (d : Deed) : List (Tw × Rat) := xs.flatMap fun x => shd x.2 (aft x.1 d p c m)
def addS : List (Tw × Rat) → Tw → Rat → List (Tw × Rat)
  | [], T, q => [(T, 0 + q)]
  | x :: xs, T, q => if x.1 = T then (T, x.2 + q) :: xs else x :: addS xs T q
def dst1 (xs : List (Tw × Rat)) (d : Deed) : List (Tw × Rat) := (lst1 p c m xs d).foldl (fun a y => addS a y.1 y.2) []
theorem mn_addS (f : Tw → Rat) : ∀ (xs : List (Tw × Rat)) (T : Tw) (q : Rat), mn f (addS xs T q) = mn f xs + q * f T
  | [], T, q => by
    unfold addS
    rw [mn_cons, mn_nil, Rat.add_zero, Rat.zero_add, Rat.zero_add]
  | x :: xs, T, q => by
    unfold addS
    split
    · rename_i h
      subst h
      rw [mn_cons, mn_cons, Rat.add_mul]
      grind
    · rw [mn_cons, mn_cons, mn_addS f xs T q, Rat.add_assoc]
theorem mn_addsS (f : Tw → Rat) : ∀ (ys xs : List (Tw × Rat)), mn f (ys.foldl (fun a y => addS a y.1 y.2) xs) = mn f xs + mn f ys
  | [], xs => by rw [mn_nil, Rat.add_zero]; rfl
  | y :: ys, xs => by
    rw [List.foldl_cons, mn_addsS f ys, mn_addS, mn_cons, Rat.add_assoc]
theorem mn_lst1 (f : Tw → Rat) (d : Deed) : ∀ xs : List (Tw × Rat), mn f (lst1 p c m xs d) = mn (fun T => mn f (aft T d p c m)) xs
  | [] => rfl
  | x :: xs => by
    have h := mn_lst1 f d xs
    have e : lst1 p c m (x :: xs) d = shd x.2 (aft x.1 d p c m) ++ lst1 p c m xs d := rfl
    rw [e, mn_app, mn_shd, h, mn_cons]
theorem mn_dst1 (f : Tw → Rat) (d : Deed) (xs : List (Tw × Rat)) : mn f (dst1 p c m xs d) = mn (fun T => mn f (aft T d p c m)) xs := by
  unfold dst1
  rw [mn_addsS, mn_nil, Rat.zero_add, mn_lst1]
theorem mh_lst (C : Tw → Nat) : ∀ (h : List Deed) (xs : List (Tw × Rat)), mn (fun T => (C T : Rat)) (h.foldl (lst1 p c m) xs) = mn (mh C p c m h) xs
  | [], xs => rfl
  | d :: h, xs => by rw [List.foldl_cons, mh_lst C h, mn_lst1]; rfl
theorem mh_dst (C : Tw → Nat) : ∀ (h : List Deed) (xs : List (Tw × Rat)), mn (fun T => (C T : Rat)) (h.foldl (dst1 p c m) xs) = mn (mh C p c m h) xs
  | [], xs => rfl
  | d :: h, xs => by rw [List.foldl_cons, mh_dst C h, mn_dst1]; rfl
end
end Tl
end
section
set_option linter.all false
set_option autoImplicit false
/-! How great the numbers get. -/
namespace Tl
/-- 0 to N, with a divisor of K^k below -/
def Sz (K N k : Nat) (q : Rat) : Prop := 0 ≤ q ∧ q ≤ (N : Rat) ∧ q.den ∣ K ^ k
theorem natR {a b : Nat} (h : a ≤ b) : (a : Rat) ≤ (b : Rat) := by
  have : ((a : Int) : Rat) ≤ ((b : Int) : Rat) := Rat.intCast_le_intCast.mpr (Int.ofNat_le.mpr h)
  exact this
theorem Sz.mono {K N N' k k' : Nat} {q : Rat} (h : Sz K N k q) (hn : N ≤ N') (hk : k ≤ k') : Sz K N' k' q :=
  ⟨h.1, Rat.le_trans h.2.1 (natR hn), Nat.dvd_trans h.2.2 (Nat.pow_dvd_pow K hk)⟩
theorem den_divInt_dvd (n : Int) {L : Nat} (h : 0 < L) : (Rat.divInt n (L : Int)).den ∣ L := by
  rw [Rat.den_divInt, if_neg (by omega), Int.natAbs_natCast]
  exact Nat.div_dvd_of_dvd (by show Nat.gcd (Int.natAbs (L : Int)) n.natAbs ∣ L; rw [Int.natAbs_natCast]; exact Nat.gcd_dvd_left _ _)
theorem dvdI {a b : Nat} (h : a ∣ b) : (a : Int) ∣ (b : Int) := Int.natCast_dvd_natCast.mpr h
theorem den_sum {L : Nat} (h : 0 < L) {qs : List Rat} (hd : ∀ q ∈ qs, q.den ∣ L) : qs.sum.den ∣ L := by
  rw [← q_sum (L : Int) (by omega) qs fun q hq => dvdI (hd q hq)]
  exact den_divInt_dvd _ h
theorem den_mul (p q : Rat) : (p * q).den ∣ p.den * q.den := by
  rw [← q_mul p q, ← Int.natCast_mul]
  exact den_divInt_dvd _ (Nat.mul_pos p.den_pos q.den_pos)
theorem den_add {p q : Rat} {L : Nat} (h : 0 < L) (hp : p.den ∣ L) (hq : q.den ∣ L) : (p + q).den ∣ L := by
  have z := den_sum h (qs := [p, q]) (by
    intro x hx
    rcases List.mem_cons.mp hx with e | hx
    · rw [e]; exact hp
    · rw [List.mem_singleton.mp hx]; exact hq)
  rw [List.sum_cons, List.sum_cons, List.sum_nil, Rat.add_zero] at z
  exact z
theorem Sz.mul {K N M k l : Nat} {p q : Rat} (h : Sz K N k p) (g : Sz K M l q) : Sz K (N * M) (k + l) (p * q) := by
  refine ⟨Rat.mul_nonneg h.1 g.1, ?_, ?_⟩
  · have h1 := Rat.mul_le_mul_of_nonneg_right h.2.1 g.1
    have h2 := Rat.mul_le_mul_of_nonneg_left g.2.1 (natR (Nat.zero_le N))
    have e : ((N * M : Nat) : Rat) = (N : Rat) * (M : Rat) := Rat.natCast_mul N M
    rw [e]
    exact Rat.le_trans h1 h2
  · rw [Nat.pow_add]
    exact Nat.dvd_trans (den_mul p q) (Nat.mul_dvd_mul h.2.2 g.2.2)
theorem Sz.add {K N M k : Nat} (hK : 0 < K) {p q : Rat} (h : Sz K N k p) (g : Sz K M k q) : Sz K (N + M) k (p + q) := by
  refine ⟨Rat.add_nonneg h.1 g.1, ?_, den_add (Nat.pow_pos hK) h.2.2 g.2.2⟩
  have e : ((N + M : Nat) : Rat) = (N : Rat) + (M : Rat) := Rat.natCast_add N M
  rw [e]
  have := h.2.1
  have := g.2.1
  grind
theorem Sz.nat (K N : Nat) : Sz K N 0 (N : Rat) := ⟨natR (Nat.zero_le N), Rat.le_refl, by rw [Rat.den_natCast]; exact Nat.one_dvd _⟩
theorem Sz.sum {K N k : Nat} (hK : 0 < K) : ∀ {qs : List Rat}, (∀ q ∈ qs, Sz K N k q) → Sz K (qs.length * N) k qs.sum
  | [], _ => by
    rw [List.length_nil, Nat.zero_mul, List.sum_nil]
    exact (Sz.nat K 0).mono (Nat.le_refl 0) (Nat.zero_le k)
  | q :: qs, h => by
    have h1 := h q List.mem_cons_self
    have h2 := Sz.sum hK fun x hx => h x (List.mem_cons_of_mem _ hx)
    rw [List.length_cons, List.sum_cons, Nat.succ_mul, Nat.add_comm]
    exact h1.add hK h2
theorem Sz.num {K N k : Nat} {q : Rat} (h : Sz K N k q) : q.num.natAbs ≤ N * q.den := by
  have h1 := (Rat.le_iff _ _).mp h.2.1
  have e1 : ((N : Rat)).num = (N : Int) := Rat.num_natCast N
  have e2 : ((N : Rat)).den = 1 := Rat.den_natCast N
  rw [e1, e2] at h1
  have h2 : 0 ≤ q.num := Rat.num_nonneg.mpr h.1
  have h3 : q.num ≤ ((N * q.den : Nat) : Int) := by rw [Int.natCast_mul]; omega
  omega
theorem Sz.small {K N k B : Nat} {q : Rat} (hK : 0 < K) (h : Sz K N k q) (hB : K ^ k < B) (hN : N * K ^ k < B) : q.num.natAbs < B ∧ q.den < B := by
  have hd : q.den ≤ K ^ k := Nat.le_of_dvd (Nat.pow_pos hK) h.2.2
  have h1 := h.num
  exact ⟨Nat.lt_of_le_of_lt (Nat.le_trans h1 (Nat.mul_le_mul_left N hd)) hN, Nat.lt_of_le_of_lt hd hB⟩
/-! towers -/
def Wk (N : Nat) (T : Tw) : Prop := Srt1 T ∧ (∀ q ∈ T, 1 ≤ q.2 ∧ q.2 ≤ 3) ∧ T.length ≤ N
theorem Wk.mono {N N' : Nat} {T : Tw} (h : Wk N T) (hn : N ≤ N') : Wk N' T := ⟨h.1, h.2.1, Nat.le_trans h.2.2 hn⟩
theorem lim_bd {c : Bool} {m top : Int} (h1 : 1 ≤ m) (h2 : m ≤ 3) (h3 : 0 ≤ top) : 1 ≤ lim c m top ∧ lim c m top ≤ 3 := by
  unfold lim
  split <;> omega
theorem del_wk {N : Nat} {T : Tw} (k : Int) (h : Wk N T) : Wk N (del T k) := ⟨del_srt h.1, fun q hq => h.2.1 q (List.mem_filter.mp hq).1, Nat.le_trans (List.length_filter_le _ _) h.2.2⟩
theorem ins_wk {N : Nat} {T : Tw} {k h : Int} (w : Wk N T) (hk : k ∉ T.map (·.1)) (h1 : 1 ≤ h) (h3 : h ≤ 3) : Wk (N + 1) (ins T k h) := by
  refine ⟨ins_srt w.1 hk, fun q hq => ?_, ?_⟩
  · rcases List.mem_append.mp ((ins_perm k h T).mem_iff.mp hq) with hq | hq
    · exact w.2.1 q hq
    · rw [List.mem_singleton.mp hq]; exact ⟨h1, h3⟩
  · rw [(ins_perm k h T).length_eq, List.length_append, List.length_singleton]
    have := w.2.2
    omega
section
variable {p : Rat} {c : Bool} {m : Int}
theorem shr_sz (h0 : 0 ≤ p) (h1 : p ≤ 1) {h e : Nat} (hh : 1 ≤ h) (he : h ≤ e) (h3 : e ≤ 3) : Sz p.den 1 2 (shr p h e) := by
  have hK := p.den_pos
  have s1 : Sz p.den 1 1 p := ⟨h0, h1, by rw [Nat.pow_one]; exact Nat.dvd_refl _⟩
  have s2 : Sz p.den 1 1 (1 - p) := by
    refine ⟨by grind, ?_, ?_⟩
    · have : ((1 : Nat) : Rat) = 1 := rfl
      rw [this]
      grind
    · rw [Rat.sub_eq_add_neg]
      exact den_add (Nat.pow_pos hK) (Nat.one_dvd _) (by rw [Rat.neg_den, Nat.pow_one]; exact Nat.dvd_refl _)
  have p0 : p ^ 0 = 1 := Rat.pow_zero p
  have p1 : p ^ 1 = p := by rw [Rat.pow_succ, p0, Rat.one_mul]
  have p2 : p ^ 2 = p * p := by rw [Rat.pow_succ, p1]
  have s0 : Sz p.den 1 0 1 := Sz.nat p.den 1
  unfold shr
  have hc : h = 1 ∨ h = 2 ∨ h = 3 := by omega
  split
  · rcases hc with rfl | rfl | rfl
    · show Sz _ _ _ (p ^ 0)
      rw [p0]; exact s0.mono (Nat.le_refl 1) (by omega)
    · show Sz _ _ _ (p ^ 1)
      rw [p1]; exact s1.mono (Nat.le_refl 1) (by omega)
    · show Sz _ _ _ (p ^ 2)
      rw [p2]; exact s1.mul s1
  · have hc : h = 1 ∨ h = 2 := by omega
    rcases hc with rfl | rfl
    · show Sz _ _ _ (p ^ 0 * _)
      rw [p0]; exact (s0.mul s2).mono (Nat.le_refl 1) (by omega)
    · show Sz _ _ _ (p ^ 1 * _)
      rw [p1]; exact s1.mul s2
theorem aft_ok (h0 : 0 ≤ p) (h1 : p ≤ 1) (m1 : 1 ≤ m) (m3 : m ≤ 3) {N : Nat} {T : Tw} (w : Wk N T) (d : Deed) : (∀ x ∈ aft T d p c m, Wk (N + 1) x.1 ∧ Sz p.den 1 2 x.2) ∧ (aft T d p c m).length ≤ (if d.1 = true then 3 else 1) := by
  have one : Sz p.den 1 2 1 := (Sz.nat p.den 1).mono (Nat.le_refl 1) (by omega)
  unfold aft
  by_cases hd : d.1 = true
  · rw [if_pos hd, if_pos hd]
    by_cases hk : d.2 ∈ T.map (·.1)
    · rw [if_pos hk]
      refine ⟨fun x hx => ?_, by simp⟩
      rw [List.mem_singleton.mp hx]
      exact ⟨w.mono (by omega), one⟩
    · rw [if_neg hk]
      have hl := lim_bd (c := c) m1 m3 (hi_nonneg T)
      unfold frs
      refine ⟨fun x hx => ?_, by rw [List.length_map, List.length_range]; omega⟩
      obtain ⟨i, hi, rfl⟩ := List.mem_map.mp hx
      have := List.mem_range.mp hi
      exact ⟨ins_wk w hk (by omega) (by omega), shr_sz h0 h1 (by omega) (by omega) (by omega)⟩
  · rw [if_neg hd, if_neg hd]
    refine ⟨fun x hx => ?_, by simp⟩
    rw [List.mem_singleton.mp hx]
    exact ⟨(del_wk _ w).mono (by omega), one⟩
theorem aft_len3 (h0 : 0 ≤ p) (h1 : p ≤ 1) (m1 : 1 ≤ m) (m3 : m ≤ 3) {N : Nat} {T : Tw} (w : Wk N T) (d : Deed) : (aft T d p c m).length ≤ 3 := by
  have := (aft_ok (c := c) h0 h1 m1 m3 w d).2
  split at this <;> omega
variable {C : Tw → Nat} {own : List Int}
/-- values -/
theorem vl_sz (hC : ∀ N T, Wk N T → C T ≤ N + 4) (h0 : 0 ≤ p) (h1 : p ≤ 1) (m1 : 1 ≤ m) (m3 : m ≤ 3) : ∀ (n N : Nat) (T : Tw), Wk N T → Sz p.den (3 ^ n * (N + n + 4)) (2 * n) (vl C own p c m n T).1
  | 0, N, T, w => by
    have h := hC N T w
    exact (Sz.nat p.den (C T)).mono (by rw [Nat.pow_zero]; omega) (Nat.le_refl 0)
  | n + 1, N, T, w => by
    show Sz _ _ _ (pk _ _ _).1
    rcases pk_is (fun d => mn (fun S => (vl C own p c m n S).1) (aft T d p c m)) (dds own T) ((C T : Rat), none) with e | ⟨d, hd, e⟩
    · rw [e]
      have h := hC N T w
      refine (Sz.nat p.den (C T)).mono ?_ (Nat.zero_le _)
      have h3 : 1 ≤ 3 ^ (n + 1) := Nat.pow_pos (by omega)
      calc C T ≤ 1 * (N + (n + 1) + 4) := by omega
        _ ≤ _ := Nat.mul_le_mul_right _ h3
    · rw [e]
      obtain ⟨a1, _⟩ := aft_ok (c := c) h0 h1 m1 m3 w d
      have a2 := aft_len3 (c := c) h0 h1 m1 m3 w d
      have hz := Sz.sum (K := p.den) (N := 1 * (3 ^ n * ((N + 1) + n + 4))) (k := 2 + 2 * n) p.den_pos (qs := (aft T d p c m).map fun x => x.2 * (vl C own p c m n x.1).1) (by
        intro q hq
        obtain ⟨x, hx, rfl⟩ := List.mem_map.mp hq
        exact (a1 x hx).2.mul (vl_sz hC h0 h1 m1 m3 n (N + 1) x.1 (a1 x hx).1))
      rw [List.length_map] at hz
      refine hz.mono ?_ (by omega)
      rw [Nat.one_mul, Nat.pow_succ, Nat.mul_comm (3 ^ n) 3, Nat.mul_assoc]
      have e : N + 1 + n + 4 = N + (n + 1) + 4 := by omega
      rw [e]
      exact Nat.mul_le_mul_right _ a2
/-! states -/
def wgt (xs : List (Tw × Rat)) : Rat := mn (fun _ => 1) xs
def Ok1 (K N k M : Nat) (xs : List (Tw × Rat)) : Prop := (∀ x ∈ xs, Wk N x.1 ∧ 0 ≤ x.2 ∧ x.2.den ∣ K ^ k) ∧ wgt xs ≤ (M : Rat)
theorem wgt_app (a b : List (Tw × Rat)) : wgt (a ++ b) = wgt a + wgt b := mn_app _ a b
theorem wgt_nn {xs : List (Tw × Rat)} (h : ∀ x ∈ xs, 0 ≤ x.2) : 0 ≤ wgt xs := by
  induction xs with
  | nil => exact Rat.le_refl
  | cons x xs ih =>
    have h1 := ih fun y hy => h y (List.mem_cons_of_mem _ hy)
    have h2 := h x List.mem_cons_self
    unfold wgt at *
    rw [mn_cons, Rat.mul_one]
    exact Rat.add_nonneg h2 h1
theorem wgt_ge {xs : List (Tw × Rat)} (h : ∀ x ∈ xs, 0 ≤ x.2) : ∀ x ∈ xs, x.2 ≤ wgt xs := by
  induction xs with
  | nil => intro x hx; cases hx
  | cons y xs ih =>
    intro x hx
    have h0 : ∀ x ∈ xs, 0 ≤ x.2 := fun z hz => h z (List.mem_cons_of_mem _ hz)
    have h1 := h y List.mem_cons_self
    have h2 := wgt_nn h0
    have e : wgt (y :: xs) = y.2 + wgt xs := by unfold wgt; rw [mn_cons, Rat.mul_one]
    rw [e]
    rcases List.mem_cons.mp hx with z | hx
    · rw [z]; grind
    · have := ih h0 x hx
      grind
theorem Ok1.sz {K N k M : Nat} {xs : List (Tw × Rat)} (h : Ok1 K N k M xs) {x : Tw × Rat} (hx : x ∈ xs) : Wk N x.1 ∧ Sz K M k x.2 :=
  ⟨(h.1 x hx).1, (h.1 x hx).2.1, Rat.le_trans (wgt_ge (fun y hy => (h.1 y hy).2.1) x hx) h.2, (h.1 x hx).2.2⟩
theorem Ok1.pre {K N k M : Nat} {a b : List (Tw × Rat)} (h : Ok1 K N k M (a ++ b)) : Ok1 K N k M a := by
  refine ⟨fun x hx => h.1 x (List.mem_append_left _ hx), ?_⟩
  have h1 := h.2
  rw [wgt_app] at h1
  have h2 := wgt_nn fun x hx => (h.1 x (List.mem_append_right a hx)).2.1
  grind
theorem Ok1.mono {K N k M N' k' M' : Nat} {xs : List (Tw × Rat)} (h : Ok1 K N k M xs) (hN : N ≤ N') (hk : k ≤ k') (hM : M ≤ M') : Ok1 K N' k' M' xs :=
  ⟨fun x hx => ⟨(h.1 x hx).1.mono hN, (h.1 x hx).2.1, Nat.dvd_trans (h.1 x hx).2.2 (Nat.pow_dvd_pow K hk)⟩, Rat.le_trans h.2 (natR hM)⟩
theorem addS_mem {T : Tw} {q : Rat} : ∀ {xs : List (Tw × Rat)} {x : Tw × Rat}, x ∈ addS xs T q → x ∈ xs ∨ (x.1 = T ∧ (x.2 = 0 + q ∨ ∃ y ∈ xs, x.2 = y.2 + q))
  | [], x, h => by
    unfold addS at h
    rw [List.mem_singleton.mp h]
    exact .inr ⟨rfl, .inl rfl⟩
  | y :: xs, x, h => by
    unfold addS at h
    split at h
    · rcases List.mem_cons.mp h with e | h
      · rw [e]; exact .inr ⟨rfl, .inr ⟨y, List.mem_cons_self, rfl⟩⟩
      · exact .inl (List.mem_cons_of_mem _ h)
    · rcases List.mem_cons.mp h with e | h
      · rw [e]; exact .inl List.mem_cons_self
      · rcases addS_mem h with h | ⟨h1, h2 | ⟨z, hz, h2⟩⟩
        · exact .inl (List.mem_cons_of_mem _ h)
        · exact .inr ⟨h1, .inl h2⟩
        · exact .inr ⟨h1, .inr ⟨z, List.mem_cons_of_mem _ hz, h2⟩⟩
theorem fold_ok {K N k : Nat} (hK : 0 < K) : ∀ (ys xs : List (Tw × Rat)), (∀ x ∈ ys, Wk N x.1 ∧ 0 ≤ x.2 ∧ x.2.den ∣ K ^ k) → (∀ x ∈ xs, Wk N x.1 ∧ 0 ≤ x.2 ∧ x.2.den ∣ K ^ k) → ∀ x ∈ ys.foldl (fun a y => addS a y.1 y.2) xs, Wk N x.1 ∧ 0 ≤ x.2 ∧ x.2.den ∣ K ^ k
  | [], xs, _, hx => hx
  | y :: ys, xs, hy, hx => by
    refine fold_ok hK ys (addS xs y.1 y.2) (fun x h => hy x (List.mem_cons_of_mem _ h)) fun x h => ?_
    obtain ⟨y1, y2, y3⟩ := hy y List.mem_cons_self
    rcases addS_mem h with h | ⟨h1, h2 | ⟨z, hz, h2⟩⟩
    · exact hx x h
    · rw [h1, h2, Rat.zero_add]; exact ⟨y1, y2, y3⟩
    · obtain ⟨z1, z2, z3⟩ := hx z hz
      rw [h1, h2]
      exact ⟨y1, Rat.add_nonneg z2 y2, den_add (Nat.pow_pos hK) z3 y3⟩
theorem Ok1.fold {K N k M : Nat} (hK : 0 < K) {ys : List (Tw × Rat)} (h : Ok1 K N k M ys) : Ok1 K N k M (ys.foldl (fun a y => addS a y.1 y.2) []) := by
  refine ⟨fold_ok hK ys [] h.1 fun x hx => absurd hx List.not_mem_nil, ?_⟩
  unfold wgt
  rw [mn_addsS, mn_nil, Rat.zero_add]
  exact h.2
theorem wgt_shd (s : Rat) (xs : List (Tw × Rat)) : wgt (shd s xs) = s * wgt xs := mn_shd _ s xs
theorem aft_wgt (h0 : 0 ≤ p) (h1 : p ≤ 1) (m1 : 1 ≤ m) (m3 : m ≤ 3) {N : Nat} {T : Tw} (w : Wk N T) (d : Deed) : wgt (aft T d p c m) ≤ 3 := by
  obtain ⟨a1, _⟩ := aft_ok (c := c) h0 h1 m1 m3 w d
  have a2 := aft_len3 (c := c) h0 h1 m1 m3 w d
  have hz := Sz.sum (K := p.den) (N := 1) (k := 2) p.den_pos (qs := (aft T d p c m).map fun x => x.2 * 1) (by
    intro q hq
    obtain ⟨x, hx, rfl⟩ := List.mem_map.mp hq
    rw [Rat.mul_one]
    exact (a1 x hx).2)
  rw [List.length_map] at hz
  refine Rat.le_trans hz.2.1 (natR (b := 3) (by omega))
theorem lst1_ok (h0 : 0 ≤ p) (h1 : p ≤ 1) (m1 : 1 ≤ m) (m3 : m ≤ 3) {N k M : Nat} {xs : List (Tw × Rat)} (h : Ok1 p.den N k M xs) (d : Deed) : Ok1 p.den (N + 1) (k + 2) (M * 3) (lst1 p c m xs d) ∧ (lst1 p c m xs d).length ≤ (if d.1 = true then 3 else 1) * xs.length := by
  have key : ∀ ys : List (Tw × Rat), (∀ x ∈ ys, Wk N x.1 ∧ 0 ≤ x.2 ∧ x.2.den ∣ p.den ^ k) → (∀ x ∈ lst1 p c m ys d, Wk (N + 1) x.1 ∧ 0 ≤ x.2 ∧ x.2.den ∣ p.den ^ (k + 2)) ∧ wgt (lst1 p c m ys d) ≤ wgt ys * 3 ∧ (lst1 p c m ys d).length ≤ (if d.1 = true then 3 else 1) * ys.length := by
    intro ys
    induction ys with
    | nil => exact fun _ => ⟨fun x hx => absurd hx List.not_mem_nil, by show (0 : Rat) ≤ 0 * 3; rw [Rat.zero_mul]; exact Rat.le_refl, Nat.zero_le _⟩
    | cons y ys ih =>
      intro hy
      obtain ⟨i1, i2, i3⟩ := ih fun x hx => hy x (List.mem_cons_of_mem _ hx)
      obtain ⟨y1, y2, y3⟩ := hy y List.mem_cons_self
      obtain ⟨a1, a2⟩ := aft_ok (c := c) h0 h1 m1 m3 y1 d
      have e : lst1 p c m (y :: ys) d = shd y.2 (aft y.1 d p c m) ++ lst1 p c m ys d := rfl
      rw [e]
      refine ⟨fun x hx => ?_, ?_, ?_⟩
      · rcases List.mem_append.mp hx with hx | hx
        · obtain ⟨z, hz, rfl⟩ := List.mem_map.mp hx
          obtain ⟨z1, z2, z3, z4⟩ := a1 z hz
          refine ⟨z1, Rat.mul_nonneg y2 z2, Nat.dvd_trans (den_mul _ _) ?_⟩
          rw [Nat.pow_add]
          exact Nat.mul_dvd_mul y3 z4
        · exact i1 x hx
      · rw [wgt_app, wgt_shd]
        have h3 := Rat.mul_le_mul_of_nonneg_left (aft_wgt (c := c) h0 h1 m1 m3 y1 d) y2
        have e2 : wgt (y :: ys) = y.2 + wgt ys := by unfold wgt; rw [mn_cons, Rat.mul_one]
        rw [e2, Rat.add_mul]
        grind
      · rw [List.length_append, List.length_cons, Nat.mul_succ, Nat.add_comm]
        unfold shd
        rw [List.length_map]
        exact Nat.add_le_add i3 a2
  obtain ⟨k1, k2, k3⟩ := key xs h.1
  refine ⟨⟨k1, Rat.le_trans k2 ?_⟩, k3⟩
  have e : ((M * 3 : Nat) : Rat) = (M : Rat) * 3 := Rat.natCast_mul M 3
  rw [e]
  exact Rat.mul_le_mul_of_nonneg_right h.2 (by decide)
theorem addS_len (T : Tw) (q : Rat) : ∀ xs : List (Tw × Rat), (addS xs T q).length ≤ xs.length + 1
  | [] => Nat.le_refl _
  | x :: xs => by
    have h := addS_len T q xs
    unfold addS
    split <;> rw [List.length_cons, List.length_cons] <;> omega
theorem fold_len : ∀ (ys xs : List (Tw × Rat)), (ys.foldl (fun a y => addS a y.1 y.2) xs).length ≤ xs.length + ys.length
  | [], xs => Nat.le_refl _
  | y :: ys, xs => by
    have h1 := fold_len ys (addS xs y.1 y.2)
    have h2 := addS_len y.1 y.2 xs
    rw [List.foldl_cons, List.length_cons]
    omega
theorem addS_keys (T : Tw) (q : Rat) : ∀ xs : List (Tw × Rat), (addS xs T q).map (·.1) = if T ∈ xs.map (·.1) then xs.map (·.1) else xs.map (·.1) ++ [T]
  | [] => rfl
  | x :: xs => by
    have h := addS_keys T q xs
    unfold addS
    by_cases e : x.1 = T
    · rw [if_pos e, List.map_cons, List.map_cons, e, if_pos List.mem_cons_self]
    · rw [if_neg e, List.map_cons, h, List.map_cons]
      by_cases z : T ∈ xs.map (·.1)
      · rw [if_pos z, if_pos (List.mem_cons_of_mem _ z)]
      · rw [if_neg z, if_neg fun y => ?_]
        · rfl
        · rcases List.mem_cons.mp y with y | y
          · exact e y.symm
          · exact z y
theorem addS_nodup {T : Tw} {q : Rat} {xs : List (Tw × Rat)} (h : (xs.map (·.1)).Nodup) : ((addS xs T q).map (·.1)).Nodup := by
  rw [addS_keys]
  split
  · exact h
  · rename_i hn
    rw [List.nodup_append]
    refine ⟨h, List.pairwise_singleton _ _, fun a ha b hb => ?_⟩
    rw [List.mem_singleton.mp hb]
    intro e
    exact hn (e ▸ ha)
theorem fold_nodup : ∀ (ys : List (Tw × Rat)) {xs : List (Tw × Rat)}, (xs.map (·.1)).Nodup → ((ys.foldl (fun a y => addS a y.1 y.2) xs).map (·.1)).Nodup
  | [], _, h => h
  | y :: ys, _, h => fold_nodup ys (addS_nodup h)
/-- a plan from one state -/
theorem led_ok (h0 : 0 ≤ p) (h1 : p ≤ 1) (m1 : 1 ≤ m) (m3 : m ≤ 3) : ∀ (h : List Deed) {N k M L : Nat} {xs : List (Tw × Rat)}, Ok1 p.den N k M xs → xs.length ≤ L → Ok1 p.den (N + h.length) (k + 2 * h.length) (M * 3 ^ h.length) (h.foldl (lst1 p c m) xs) ∧ (h.foldl (lst1 p c m) xs).length ≤ L * 3 ^ nin h
  | [], N, k, M, L, xs, ho, hl => ⟨ho.mono (Nat.le_refl _) (Nat.le_refl _) (by rw [List.length_nil, Nat.pow_zero]; omega), by show xs.length ≤ L * 1; omega⟩
  | d :: h, N, k, M, L, xs, ho, hl => by
    obtain ⟨a1, a2⟩ := lst1_ok (c := c) h0 h1 m1 m3 ho d
    obtain ⟨b1, b2⟩ := led_ok h0 h1 m1 m3 h (L := (if d.1 = true then 3 else 1) * L) a1 (Nat.le_trans a2 (Nat.mul_le_mul_left _ hl))
    rw [List.foldl_cons, List.length_cons]
    refine ⟨b1.mono (by omega) (by omega) (by rw [Nat.pow_succ, Nat.mul_assoc, Nat.mul_comm 3]; exact Nat.le_refl _), Nat.le_trans b2 ?_⟩
    unfold nin
    rw [List.filter_cons]
    split
    · rw [List.length_cons, Nat.pow_succ]
      have e : 3 * L * 3 ^ (h.filter fun d => d.1).length = L * (3 ^ (h.filter fun d => d.1).length * 3) := by rw [Nat.mul_comm 3 L, Nat.mul_assoc, Nat.mul_comm 3]
      exact Nat.le_of_eq e
    · rw [Nat.one_mul]; exact Nat.le_refl _
theorem ledD_ok (h0 : 0 ≤ p) (h1 : p ≤ 1) (m1 : 1 ≤ m) (m3 : m ≤ 3) : ∀ (h : List Deed) {N k M L : Nat} {xs : List (Tw × Rat)}, Ok1 p.den N k M xs → xs.length ≤ L → (xs.map (·.1)).Nodup → Ok1 p.den (N + h.length) (k + 2 * h.length) (M * 3 ^ h.length) (h.foldl (dst1 p c m) xs) ∧ (h.foldl (dst1 p c m) xs).length ≤ L * 3 ^ nin h ∧ ((h.foldl (dst1 p c m) xs).map (·.1)).Nodup
  | [], N, k, M, L, xs, ho, hl, hn => ⟨ho.mono (Nat.le_refl _) (Nat.le_refl _) (by rw [List.length_nil, Nat.pow_zero]; omega), by show xs.length ≤ L * 1; omega, hn⟩
  | d :: h, N, k, M, L, xs, ho, hl, hn => by
    obtain ⟨a1, a2⟩ := lst1_ok (c := c) h0 h1 m1 m3 ho d
    have a3 := fold_len (lst1 p c m xs d) []
    rw [List.length_nil, Nat.zero_add] at a3
    obtain ⟨b1, b2, b3⟩ := ledD_ok h0 h1 m1 m3 h (xs := dst1 p c m xs d) (L := (if d.1 = true then 3 else 1) * L) (a1.fold p.den_pos) (Nat.le_trans a3 (Nat.le_trans a2 (Nat.mul_le_mul_left _ hl))) (fold_nodup _ List.Pairwise.nil)
    rw [List.foldl_cons, List.length_cons]
    refine ⟨b1.mono (by omega) (by omega) (by rw [Nat.pow_succ, Nat.mul_assoc, Nat.mul_comm 3]; exact Nat.le_refl _), Nat.le_trans b2 ?_, b3⟩
    unfold nin
    rw [List.filter_cons]
    split
    · rw [List.length_cons, Nat.pow_succ]
      have e : 3 * L * 3 ^ (h.filter fun d => d.1).length = L * (3 ^ (h.filter fun d => d.1).length * 3) := by rw [Nat.mul_comm 3 L, Nat.mul_assoc, Nat.mul_comm 3]
      exact Nat.le_of_eq e
    · rw [Nat.one_mul]; exact Nat.le_refl _
end
end Tl
end
section
set_option Elab.async false
set_option linter.all false
set_option maxRecDepth 100000
set_option maxHeartbeats 2000000
set_option autoImplicit false
set_option exponentiation.threshold 10000
/-! Fractions: the defs of ratios and the law's own. -/
namespace Tl
open PySem PySem.Spec PyProof.Rows L2
local macro_rules | `(tactic| walk_at "ev") => `(tactic| first
  | ((with_reducible refine' eg_var ?k1); (case k1 => exact rfl))
  | with_reducible exact eg_int
  | with_reducible exact eg_str
  | with_reducible exact eg_bl
  | with_reducible exact eg_non
  | ((with_reducible refine' eg_sub ?k1 ?k2); (case k1 => walk_at "ev"); (case k2 => walk_at "ev"))
  | ((with_reducible refine' eg_add ?k1 ?k2); (case k1 => walk_at "ev"); (case k2 => walk_at "ev"))
  | ((with_reducible refine' eg_lt ?k1 ?k2); (case k1 => walk_at "ev"); (case k2 => walk_at "ev"))
  | ((with_reducible refine' eg_le ?k1 ?k2); (case k1 => walk_at "ev"); (case k2 => walk_at "ev"))
  | ((with_reducible refine' eg_gt ?k1 ?k2); (case k1 => walk_at "ev"); (case k2 => walk_at "ev"))
  | ((with_reducible refine' eg_ge ?k1 ?k2); (case k1 => walk_at "ev"); (case k2 => walk_at "ev"))
  | ((with_reducible refine' eg_neg ?k1); (case k1 => walk_at "ev"))
  | ((with_reducible refine' eg_ixT ?k1 ?k2 ?k3); (case k1 => walk_at "ev"); (case k2 => walk_at "ev"); (case k3 => exact rfl))
  | ((with_reducible refine' eg_ixL ?k1 ?k2 ?k3); (case k1 => walk_at "ev"); (case k2 => walk_at "ev"); (case k3 => exact rfl))
  | ((with_reducible refine' eg_tup ?k1 ?k2); (case k1 => walk_at "av"); (case k2 => exact le1000 rfl))
  | ((with_reducible refine' eg_lst ?k1 ?k2); (case k1 => walk_at "av"); (case k2 => exact le1000 rfl))
  | ((with_reducible refine' eg_isN ?k1 ?k2); (case k1 => walk_at "ev"); (case k2 => exact rfl))
  | ((with_reducible refine' eg_notN ?k1 ?k2); (case k1 => walk_at "ev"); (case k2 => exact rfl))
  | ((with_reducible refine' eg_eqI ?k1 ?k2); (case k1 => walk_at "ev"); (case k2 => walk_at "ev"))
  | ((with_reducible refine' eg_eqStr ?k1 ?k2); (case k1 => walk_at "ev"); (case k2 => walk_at "ev"))
  | assumption)
local macro_rules | `(tactic| walk_at "av") => `(tactic| first
  | with_reducible exact ag_nil
  | ((with_reducible refine' ag_cons ?k1 ?k2); (case k1 => walk_at "ev"); (case k2 => walk_at "av")))
local macro_rules | `(tactic| walk_at "tv") => `(tactic| first
  | ((with_reducible refine' tg_test ?k1); (case k1 => walk_at "ev"))
  | ((with_reducible refine' tg_B ?k1); (case k1 => walk_at "ev"))
  | ((with_reducible refine' tg_not ?k1); (case k1 => walk_at "tv")))
local macro_rules | `(tactic| walk_at "nm") => `(tactic| first | dsimp only [cxOf] | skip)

section
variable {B : Bs} {mg : Str → Option Value} {base : Heap}
def S_common (ds : List D) (e : D) : Prop := ∃ a b : Int, ds = [.int a, .int b] ∧ e = .int (Int.gcd a b : Int)
theorem gcd_step (x y : Int) (hx : 0 ≤ x) (hy : 0 < y) : Int.gcd y (x % y) = Int.gcd x y := by
  obtain ⟨a, rfl⟩ := Int.eq_ofNat_of_zero_le hx
  obtain ⟨b, rfl⟩ := Int.eq_ofNat_of_zero_le (Int.le_of_lt hy)
  rw [← Int.natCast_emod, Int.gcd_natCast_natCast, Int.gcd_natCast_natCast, Nat.gcd_comm a b, Nat.gcd_comm b (a % b), ← Nat.gcd_rec b a]
theorem ok_common (T : Txt B.K mg) : FnOk B.P B.w B.K mg base CX0 1 T.common.f T.common.d p_common (PSp B.P B.w B.K S_common) := by
  refine fn_pure T.common.F sc_common (fun ds e h => by obtain ⟨a, b, rfl, _⟩ := h; rfl) fun pp cdv A outer s H E ds e hr hS => ⟨_, (pss_cons (ps_par (i := 0) (j := 1) rfl sc_common.nd rfl rfl (by decide) rfl rfl (pa_cons (pe_callB call_abs (by rfl) T.m_abs (by decide +kernel) (pa_cons (pv 0) pa_nil)) (pa_cons (pe_callB call_abs (by rfl) T.m_abs (by decide +kernel) (pa_cons (pv 1) pa_nil)) pa_nil)) (by rfl)) (pss_cons (ps_while PassesOwn.never (pt_cmpR op_gt (pv 1) pe_int (nomark _)) (pss_one (ps_par (i := 0) (j := 1) rfl sc_common.nd rfl rfl (by decide) rfl rfl (pa_cons (pv 1) (pa_cons (pe_op op_mod (pv 0) (pv 1)) pa_nil)) (by rfl)))) (pss_one (ps_ret (pv 0))))), ?_⟩
  obtain ⟨a, b, rfl, rfl⟩ := hS
  walk_at "nm"
  refine sg_ctx [some (.int a), some (.int b)] rfl ?_
  refine sg_seq (sg_par (ag_cons (eg_bi (by walk_at "av") cg_abs) (ag_cons (eg_bi (by walk_at "av") cg_abs) ag_nil)) ?_)
  refine sg_seq (sg_while (fun m Γ => ∃ x y : Nat, Γ = [some (.int x), some (.int y)] ∧ m = y ∧ Int.gcd x y = Int.gcd a b) b.natAbs ⟨a.natAbs, b.natAbs, rfl, rfl, by simp [Int.gcd]⟩ ?_)
  rintro m Γ ⟨x, y, rfl, hm, hg⟩
  refine ⟨_, by walk_at "tv", fun hb => ?_, fun hb => ?_⟩
  · have hy : (0 : Int) < y := of_decide_eq_true hb
    refine sg_par (ag_cons (by walk_at "ev") (ag_cons (eg_mod (by walk_at "ev") (by walk_at "ev") hy) ag_nil)) ?_
    refine ⟨x % y, by rw [hm]; exact Nat.mod_lt _ (by omega), y, x % y, by simp, rfl, ?_⟩
    rw [← hg]
    exact gcd_step x y (by omega) hy
  · have hy : ¬ (0 : Int) < y := of_decide_eq_false hb
    have hy0 : y = 0 := by omega
    subst hy0
    refine sg_ret (by walk_at "ev") ?_
    show D.int x = D.int (Int.gcd a b)
    rw [← hg]
    simp

def fr (q : Rat) : D := .tup [.int q.num, .int (q.den : Int)]
def sm (q : Rat) : Prop := q.num.natAbs < 2 ^ 4000 ∧ q.den < 2 ^ 4000
theorem fr_divInt (t b : Int) (hb : 0 < b) : fr (Rat.divInt t b) = .tup [.int (t / (Int.gcd t b : Int)), .int (b / (Int.gcd t b : Int))] := by
  unfold fr
  rw [Rat.num_divInt, Rat.den_divInt, if_neg (by omega), Int.sign_eq_one_of_pos hb, Int.one_mul, Int.gcd_comm b t]
  have e : ((b.natAbs / Int.gcd t b : Nat) : Int) = b / (Int.gcd t b : Int) := by
    rw [Int.natCast_ediv, Int.natAbs_of_nonneg (by omega)]
  rw [e]
def S_ratio (ds : List D) (e : D) : Prop := ∃ t b : Int, ds = [.int t, .int b] ∧ 0 < b ∧ b.natAbs < 2 ^ 8900 ∧ e = fr (Rat.divInt t b)
theorem gcd_div (t : Int) {b : Int} (hb : 0 < b) (h : b.natAbs < 2 ^ 8900) (x : Int) : CDivW x (Int.gcd t b : Int) := by
  have h1 : 0 < Int.gcd t b := Int.gcd_pos_of_ne_zero_right t (by omega)
  refine wide_div (b := 8900) (by omega) ?_ (by decide) (by decide)
  have h2 : Int.gcd t b ∣ b.natAbs := Nat.gcd_dvd_right _ _
  have h3 := Nat.le_of_dvd (by omega) h2
  rw [Int.natAbs_natCast]
  omega
theorem ok_ratio (T : Txt B.K mg) : FnOk B.P B.w B.K mg base CX0 2 T.ratio.f T.ratio.d p_ratio (PSp B.P B.w B.K S_ratio) := by
  have G_common := ok_common (base := base) T
  refine fn_pure T.ratio.F sc_ratio (fun ds e h => by obtain ⟨a, b, rfl, _⟩ := h; rfl) fun pp cdv A outer s H E ds e hr hS => ⟨_, (pss_cons (ps_if (pt_cmpR op_lt (pv 1) pe_int (nomark _)) (pss_one (ps_par (i := 0) (j := 1) rfl sc_ratio.nd rfl rfl (by decide) rfl rfl (pa_cons (pe_un un_neg (pv 0)) (pa_cons (pe_un un_neg (pv 1)) pa_nil)) (by rfl))) pss_nil) (pss_cons (ps_set (i := 2) sc_ratio.nd rfl (Or.inl rfl) (pe_call G_common (hr.mono (by decide)) (by rfl) T.common.g T.common.F.kp T.common.b .nil pass0 (pa_cons (pv 0) (pa_cons (pv 1) pa_nil)))) (pss_one (ps_ret (pe_tupF (pa_cons (pe_op op_fdivW (pv 0) (pv 2)) (pa_cons (pe_op op_fdivW (pv 1) (pv 2)) pa_nil))))))), ?_⟩
  obtain ⟨t, b, rfl, hb, hz, rfl⟩ := hS
  walk_at "nm"
  refine sg_ctx [some (.int t), some (.int b), none] rfl ?_
  refine sg_seq (sg_if (by walk_at "tv") (fun h => absurd (of_decide_eq_true h) (by omega)) fun _ => sg_next ?_)
  refine sg_seq (sg_asg (eg_call (by walk_at "av") ⟨t, b, rfl, rfl⟩) ?_)
  refine sg_ret (eg_tup (ag_cons (eg_fdiv (by walk_at "ev") (by walk_at "ev") (gcd_div t hb hz _)) (ag_cons (eg_fdiv (by walk_at "ev") (by walk_at "ev") (gcd_div t hb hz _)) ag_nil)) (le1000 rfl)) ?_
  exact (fr_divInt t b hb).symm

theorem sm_mulW {a b : Int} (ha : a.natAbs < 2 ^ 4000) (hb : b.natAbs < 2 ^ 4000) : CMul a b ∨ CMulW a b := .inr (wide_mul ha hb (by decide) (by decide) (by decide))
theorem sm_den {q : Rat} (h : sm q) : (q.den : Int).natAbs < 2 ^ 4000 := by rw [Int.natAbs_natCast]; exact h.2
theorem sm_dens {p q : Rat} (h : sm p) (h' : sm q) : ((p.den : Int) * q.den).natAbs < 2 ^ 8900 := by
  have e := wide_lt (sm_den h) (sm_den h')
  exact Nat.lt_trans e (Nat.pow_lt_pow_right (by decide) (by decide))
theorem den_posI (q : Rat) : (0 : Int) < q.den := by have := q.den_pos; omega
theorem dens_pos (p q : Rat) : (0 : Int) < (p.den : Int) * q.den := Int.mul_pos (den_posI p) (den_posI q)
def S_plus (ds : List D) (e : D) : Prop := ∃ p q : Rat, ds = [fr p, fr q] ∧ sm p ∧ sm q ∧ e = fr (p + q)
theorem ok_plus (T : Txt B.K mg) : FnOk B.P B.w B.K mg base CX0 3 T.plus.f T.plus.d p_plus (PSp B.P B.w B.K S_plus) := by
  have G_ratio := ok_ratio (base := base) T
  refine fn_pure T.plus.F sc_plus (fun ds e h => by obtain ⟨a, b, rfl, _⟩ := h; rfl) fun pp cdv A outer s H E ds e hr hS => ⟨_, (pss_cons (ps_if (pt_cmpR (k_eq (K := B.K) rfl hr.units) (pe_ix (k_ix (K := B.K) rfl) (pv 0) pe_int (fun _ _ => rfl)) (pe_ix (k_ix (K := B.K) rfl) (pv 1) pe_int (fun _ _ => rfl)) (nomark _)) (pss_one (ps_ret (pe_call G_ratio (hr.mono (by decide)) (by rfl) T.ratio.g T.ratio.F.kp T.ratio.b .nil pass0 (pa_cons (pe_op (k_add (K := B.K) rfl) (pe_ix (k_ix (K := B.K) rfl) (pv 0) pe_int (fun _ _ => rfl)) (pe_ix (k_ix (K := B.K) rfl) (pv 1) pe_int (fun _ _ => rfl))) (pa_cons (pe_ix (k_ix (K := B.K) rfl) (pv 0) pe_int (fun _ _ => rfl)) pa_nil))))) pss_nil) (pss_one (ps_ret (pe_call G_ratio (hr.mono (by decide)) (by rfl) T.ratio.g T.ratio.F.kp T.ratio.b .nil pass0 (pa_cons (pe_op (k_add (K := B.K) rfl) (pe_op op_mulA (pe_ix (k_ix (K := B.K) rfl) (pv 0) pe_int (fun _ _ => rfl)) (pe_ix (k_ix (K := B.K) rfl) (pv 1) pe_int (fun _ _ => rfl))) (pe_op op_mulA (pe_ix (k_ix (K := B.K) rfl) (pv 1) pe_int (fun _ _ => rfl)) (pe_ix (k_ix (K := B.K) rfl) (pv 0) pe_int (fun _ _ => rfl)))) (pa_cons (pe_op op_mulA (pe_ix (k_ix (K := B.K) rfl) (pv 0) pe_int (fun _ _ => rfl)) (pe_ix (k_ix (K := B.K) rfl) (pv 1) pe_int (fun _ _ => rfl))) pa_nil)))))), ?_⟩
  obtain ⟨p, q, rfl, hp, hq, rfl⟩ := hS
  walk_at "nm"
  refine sg_ctx [some (fr p), some (fr q)] rfl ?_
  refine sg_seq (sg_if (by walk_at "tv") (fun h => ?_) fun _ => sg_next ?_)
  · have e : (p.den : Int) = q.den := of_decide_eq_true h
    refine sg_ret (eg_call (by walk_at "av") ⟨_, _, rfl, den_posI p, Nat.lt_trans (sm_den hp) (Nat.pow_lt_pow_right (by decide) (by decide)), rfl⟩) ?_
    exact congrArg fr (q_addSame p q e)
  · refine sg_ret (eg_call (ag_cons (eg_add (eg_mul (by walk_at "ev") (by walk_at "ev") (sm_mulW hp.1 (sm_den hq))) (eg_mul (by walk_at "ev") (by walk_at "ev") (sm_mulW hq.1 (sm_den hp))))
      (ag_cons (eg_mul (by walk_at "ev") (by walk_at "ev") (sm_mulW (sm_den hp) (sm_den hq))) ag_nil)) ⟨_, _, rfl, dens_pos p q, sm_dens hp hq, rfl⟩) ?_
    exact congrArg fr (q_add p q)
def S_times (ds : List D) (e : D) : Prop := ∃ p q : Rat, ds = [fr p, fr q] ∧ sm p ∧ sm q ∧ e = fr (p * q)
theorem ok_times (T : Txt B.K mg) : FnOk B.P B.w B.K mg base CX0 3 T.times.f T.times.d p_times (PSp B.P B.w B.K S_times) := by
  have G_ratio := ok_ratio (base := base) T
  refine fn_pure T.times.F sc_times (fun ds e h => by obtain ⟨a, b, rfl, _⟩ := h; rfl) fun pp cdv A outer s H E ds e hr hS => ⟨_, (pss_one (ps_ret (pe_call G_ratio (hr.mono (by decide)) (by rfl) T.ratio.g T.ratio.F.kp T.ratio.b .nil pass0 (pa_cons (pe_op op_mulA (pe_ix (k_ix (K := B.K) rfl) (pv 0) pe_int (fun _ _ => rfl)) (pe_ix (k_ix (K := B.K) rfl) (pv 1) pe_int (fun _ _ => rfl))) (pa_cons (pe_op op_mulA (pe_ix (k_ix (K := B.K) rfl) (pv 0) pe_int (fun _ _ => rfl)) (pe_ix (k_ix (K := B.K) rfl) (pv 1) pe_int (fun _ _ => rfl))) pa_nil))))), ?_⟩
  obtain ⟨p, q, rfl, hp, hq, rfl⟩ := hS
  walk_at "nm"
  refine sg_ctx [some (fr p), some (fr q)] rfl ?_
  refine sg_ret (eg_call (ag_cons (eg_mul (by walk_at "ev") (by walk_at "ev") (sm_mulW hp.1 hq.1)) (ag_cons (eg_mul (by walk_at "ev") (by walk_at "ev") (sm_mulW (sm_den hp) (sm_den hq))) ag_nil)) ⟨_, _, rfl, dens_pos p q, sm_dens hp hq, rfl⟩) ?_
  exact congrArg fr (q_mul p q)
theorem fr_neg (q : Rat) : fr (-q) = .tup [.int (-q.num), .int (q.den : Int)] := by unfold fr; rw [Rat.neg_num, Rat.neg_den]
theorem sm_neg {q : Rat} (h : sm q) : sm (-q) := by unfold sm; rw [Rat.neg_num, Rat.neg_den, Int.natAbs_neg]; exact h
def S_minus (ds : List D) (e : D) : Prop := ∃ p q : Rat, ds = [fr p, fr q] ∧ sm p ∧ sm q ∧ e = fr (p - q)
theorem ok_minus (T : Txt B.K mg) : FnOk B.P B.w B.K mg base CX0 4 T.minus.f T.minus.d p_minus (PSp B.P B.w B.K S_minus) := by
  have G_plus := ok_plus (base := base) T
  refine fn_pure T.minus.F sc_minus (fun ds e h => by obtain ⟨a, b, rfl, _⟩ := h; rfl) fun pp cdv A outer s H E ds e hr hS => ⟨_, (pss_one (ps_ret (pe_call G_plus (hr.mono (by decide)) (by rfl) T.plus.g T.plus.F.kp T.plus.b .nil pass0 (pa_cons (pv 0) (pa_cons (pe_tupF (pa_cons (pe_un un_neg (pe_ix (k_ix (K := B.K) rfl) (pv 1) pe_int (fun _ _ => rfl))) (pa_cons (pe_ix (k_ix (K := B.K) rfl) (pv 1) pe_int (fun _ _ => rfl)) pa_nil))) pa_nil))))), ?_⟩
  obtain ⟨p, q, rfl, hp, hq, rfl⟩ := hS
  walk_at "nm"
  refine sg_ctx [some (fr p), some (fr q)] rfl ?_
  refine sg_ret (eg_call (ag_cons (by walk_at "ev") (ag_cons (eg_tup (ag_cons (eg_neg (by walk_at "ev")) (ag_cons (by walk_at "ev") ag_nil)) (le1000 rfl)) ag_nil)) ⟨p, -q, by rw [fr_neg], hp, sm_neg hq, rfl⟩) ?_
  exact congrArg fr (Rat.sub_eq_add_neg p q).symm
def S_is_less (ds : List D) (e : D) : Prop := ∃ p q : Rat, ds = [fr p, fr q] ∧ sm p ∧ sm q ∧ e = .bl (decide (p < q))
theorem ok_is_less (T : Txt B.K mg) : FnOk B.P B.w B.K mg base CX0 1 T.is_less.f T.is_less.d p_is_less (PSp B.P B.w B.K S_is_less) := by
  refine fn_pure T.is_less.F sc_is_less (fun ds e h => by obtain ⟨a, b, rfl, _⟩ := h; rfl) fun pp cdv A outer s H E ds e hr hS => ⟨_, (pss_one (ps_ret (pe_cmpR op_lt (pe_op op_mulA (pe_ix (k_ix (K := B.K) rfl) (pv 0) pe_int (fun _ _ => rfl)) (pe_ix (k_ix (K := B.K) rfl) (pv 1) pe_int (fun _ _ => rfl))) (pe_op op_mulA (pe_ix (k_ix (K := B.K) rfl) (pv 1) pe_int (fun _ _ => rfl)) (pe_ix (k_ix (K := B.K) rfl) (pv 0) pe_int (fun _ _ => rfl))) (nomark _)))), ?_⟩
  obtain ⟨p, q, rfl, hp, hq, rfl⟩ := hS
  walk_at "nm"
  refine sg_ctx [some (fr p), some (fr q)] rfl ?_
  refine sg_ret (eg_lt (eg_mul (by walk_at "ev") (by walk_at "ev") (sm_mulW hp.1 (sm_den hq))) (eg_mul (by walk_at "ev") (by walk_at "ev") (sm_mulW hq.1 (sm_den hp)))) ?_
  exact congrArg D.bl (q_lt p q)
/-! powers: of at most two -/
def S_raised (ds : List D) (e : D) : Prop := ∃ (a : Int) (n : Nat), ds = [.int a, .int n] ∧ a.natAbs < 2 ^ 100 ∧ n ≤ 2 ∧ e = .int (a ^ n)
theorem ok_raised (T : Txt B.K mg) : FnOk B.P B.w B.K mg base CX0 1 T.raised.f T.raised.d p_raised (PSp B.P B.w B.K S_raised) := by
  refine fn_pure T.raised.F sc_raised (fun ds e h => by obtain ⟨a, b, rfl, _⟩ := h; rfl) fun pp cdv A outer s H E ds e hr hS => ⟨_, (pss_cons (ps_set (i := 2) sc_raised.nd rfl (Or.inl rfl) pe_int) (pss_cons (ps_while PassesOwn.never (pt_cmpR op_gt (pv 1) pe_int (nomark _)) (pss_cons (ps_if (pt_cmpR (k_eq (K := B.K) rfl hr.units) (pe_op op_mod (pv 1) pe_int) pe_int (nomark _)) (pss_one (ps_set (i := 2) sc_raised.nd rfl (Or.inl rfl) (pe_op op_mulA (pv 2) (pv 0)))) pss_nil) (pss_one (ps_par (i := 0) (j := 1) rfl sc_raised.nd rfl rfl (by decide) rfl rfl (pa_cons (pe_op op_mulA (pv 0) (pv 0)) (pa_cons (pe_op op_fdivW (pv 1) pe_int) pa_nil)) (by rfl))))) (pss_one (ps_ret (pv 2))))), ?_⟩
  obtain ⟨a, n, rfl, ha, hn, rfl⟩ := hS
  walk_at "nm"
  refine sg_ctx [some (.int a), some (.int n), none] rfl ?_
  refine sg_seq (sg_asg (by walk_at "ev") ?_)
  refine sg_seq (sg_while (fun m Γ => ∃ (x f : Int) (k : Nat), Γ = [some (.int x), some (.int k), some (.int f)] ∧ k = m ∧ f * x ^ k = a ^ n ∧ k ≤ 2 ∧ x.natAbs < 2 ^ 400 ∧ (k = 2 → x.natAbs < 2 ^ 100) ∧ (k = 1 → x.natAbs < 2 ^ 200) ∧ (0 < k → f = 1)) n
    ⟨a, 1, n, rfl, rfl, by rw [Int.one_mul], hn, Nat.lt_trans ha (Nat.pow_lt_pow_right (by decide) (by decide)), fun _ => ha, fun _ => Nat.lt_trans ha (Nat.pow_lt_pow_right (by decide) (by decide)), fun _ => rfl⟩ ?_)
  rintro m Γ ⟨x, f, k, rfl, hm, hx, hk, hz, h2, h1, hf⟩
  have z400 : x.natAbs < 2 ^ 4000 := Nat.lt_trans hz (Nat.pow_lt_pow_right (by decide) (by decide))
  refine ⟨_, by walk_at "tv", fun hb => ?_, fun hb => ?_⟩
  · have hy : (0 : Int) < k := of_decide_eq_true hb
    have f1 := hf (by omega)
    subst f1
    refine sg_seq (sg_if (tg_test (eg_eqI (eg_mod (by walk_at "ev") (by walk_at "ev") (by decide)) (by walk_at "ev"))) (fun h => ?_) (fun h => sg_next ?_))
    · have h' : (k : Int) % 2 = 1 := of_decide_eq_true h
      have hk1 : k = 1 := by omega
      subst hk1
      refine sg_asg (eg_mul (by walk_at "ev") (by walk_at "ev") (sm_mulW (by decide) z400)) ?_
      refine sg_par (ag_cons (eg_mul (by walk_at "ev") (by walk_at "ev") (sm_mulW z400 z400)) (ag_cons (eg_fdiv (by walk_at "ev") (by walk_at "ev") ⟨by decide, by decide⟩) ag_nil)) ?_
      refine ⟨0, by omega, x * x, 1 * x, 0, rfl, rfl, ?_, by omega, ?_, by omega, by omega, by omega⟩
      · rw [← hx, Int.pow_succ]; simp
      · exact wide_lt (h1 rfl) (h1 rfl)
    · have h' : ¬ (k : Int) % 2 = 1 := of_decide_eq_false h
      have hk1 : k = 2 := by omega
      subst hk1
      refine sg_par (ag_cons (eg_mul (by walk_at "ev") (by walk_at "ev") (sm_mulW z400 z400)) (ag_cons (eg_fdiv (by walk_at "ev") (by walk_at "ev") ⟨by decide, by decide⟩) ag_nil)) ?_
      have e := wide_lt (h2 rfl) (h2 rfl)
      refine ⟨1, by omega, x * x, 1, 1, rfl, rfl, ?_, by omega, Nat.lt_trans e (Nat.pow_lt_pow_right (by decide) (by decide)), by omega, fun _ => e, fun _ => rfl⟩
      rw [← hx, Int.pow_succ, Int.pow_succ, Int.pow_succ]
      simp
  · have hy : ¬ (0 : Int) < k := of_decide_eq_false hb
    have hy0 : k = 0 := by omega
    subst hy0
    refine sg_ret (by walk_at "ev") ?_
    show D.int f = D.int (a ^ n)
    rw [← hx]
    simp
def S_power (ds : List D) (e : D) : Prop := ∃ (p : Rat) (n : Nat), ds = [fr p, .int n] ∧ p.num.natAbs < 2 ^ 100 ∧ p.den < 2 ^ 100 ∧ n ≤ 2 ∧ e = fr (p ^ n)
theorem ok_power (T : Txt B.K mg) : FnOk B.P B.w B.K mg base CX0 2 T.power.f T.power.d p_power (PSp B.P B.w B.K S_power) := by
  have G_raised := ok_raised (base := base) T
  refine fn_pure T.power.F sc_power (fun ds e h => by obtain ⟨a, b, rfl, _⟩ := h; rfl) fun pp cdv A outer s H E ds e hr hS => ⟨_, (pss_one (ps_ret (pe_tupF (pa_cons (pe_call G_raised (hr.mono (by decide)) (by rfl) T.raised.g T.raised.F.kp T.raised.b .nil pass0 (pa_cons (pe_ix (k_ix (K := B.K) rfl) (pv 0) pe_int (fun _ _ => rfl)) (pa_cons (pv 1) pa_nil))) (pa_cons (pe_call G_raised (hr.mono (by decide)) (by rfl) T.raised.g T.raised.F.kp T.raised.b .nil pass0 (pa_cons (pe_ix (k_ix (K := B.K) rfl) (pv 0) pe_int (fun _ _ => rfl)) (pa_cons (pv 1) pa_nil))) pa_nil))))), ?_⟩
  obtain ⟨p, n, rfl, h1, h2, hn, rfl⟩ := hS
  walk_at "nm"
  refine sg_ctx [some (fr p), some (.int n)] rfl ?_
  refine sg_ret (eg_tup (ag_cons (eg_call (by walk_at "av") ⟨_, n, rfl, h1, hn, rfl⟩) (ag_cons (eg_call (by walk_at "av") ⟨_, n, rfl, by rw [Int.natAbs_natCast]; exact h2, hn, rfl⟩) ag_nil)) (le1000 rfl)) ?_
  show D.tup _ = fr (p ^ n)
  unfold fr
  rw [Rat.num_pow, Rat.den_pow, Int.natCast_pow]
end
end Tl
end
section
set_option Elab.async false
set_option linter.all false
set_option maxRecDepth 100000
set_option maxHeartbeats 2000000
set_option autoImplicit false
set_option exponentiation.threshold 10000
/-! Sums of fractions; the law's own fractions. -/
namespace Tl
open PySem PySem.Spec PyProof.Rows L2
local macro_rules | `(tactic| walk_at "ev") => `(tactic| first
  | ((with_reducible refine' eg_var ?k1); (case k1 => exact rfl))
  | with_reducible exact eg_int
  | with_reducible exact eg_str
  | with_reducible exact eg_bl
  | with_reducible exact eg_non
  | ((with_reducible refine' eg_sub ?k1 ?k2); (case k1 => walk_at "ev"); (case k2 => walk_at "ev"))
  | ((with_reducible refine' eg_add ?k1 ?k2); (case k1 => walk_at "ev"); (case k2 => walk_at "ev"))
  | ((with_reducible refine' eg_lt ?k1 ?k2); (case k1 => walk_at "ev"); (case k2 => walk_at "ev"))
  | ((with_reducible refine' eg_le ?k1 ?k2); (case k1 => walk_at "ev"); (case k2 => walk_at "ev"))
  | ((with_reducible refine' eg_gt ?k1 ?k2); (case k1 => walk_at "ev"); (case k2 => walk_at "ev"))
  | ((with_reducible refine' eg_ge ?k1 ?k2); (case k1 => walk_at "ev"); (case k2 => walk_at "ev"))
  | ((with_reducible refine' eg_neg ?k1); (case k1 => walk_at "ev"))
  | ((with_reducible refine' eg_ixT ?k1 ?k2 ?k3); (case k1 => walk_at "ev"); (case k2 => walk_at "ev"); (case k3 => exact rfl))
  | ((with_reducible refine' eg_ixL ?k1 ?k2 ?k3); (case k1 => walk_at "ev"); (case k2 => walk_at "ev"); (case k3 => exact rfl))
  | ((with_reducible refine' eg_tup ?k1 ?k2); (case k1 => walk_at "av"); (case k2 => exact le1000 rfl))
  | ((with_reducible refine' eg_lst ?k1 ?k2); (case k1 => walk_at "av"); (case k2 => exact le1000 rfl))
  | ((with_reducible refine' eg_isN ?k1 ?k2); (case k1 => walk_at "ev"); (case k2 => exact rfl))
  | ((with_reducible refine' eg_notN ?k1 ?k2); (case k1 => walk_at "ev"); (case k2 => exact rfl))
  | ((with_reducible refine' eg_eqI ?k1 ?k2); (case k1 => walk_at "ev"); (case k2 => walk_at "ev"))
  | ((with_reducible refine' eg_eqStr ?k1 ?k2); (case k1 => walk_at "ev"); (case k2 => walk_at "ev"))
  | assumption)
local macro_rules | `(tactic| walk_at "av") => `(tactic| first
  | with_reducible exact ag_nil
  | ((with_reducible refine' ag_cons ?k1 ?k2); (case k1 => walk_at "ev"); (case k2 => walk_at "av")))
local macro_rules | `(tactic| walk_at "tv") => `(tactic| first
  | ((with_reducible refine' tg_test ?k1); (case k1 => walk_at "ev"))
  | ((with_reducible refine' tg_B ?k1); (case k1 => walk_at "ev"))
  | ((with_reducible refine' tg_not ?k1); (case k1 => walk_at "tv")))
local macro_rules | `(tactic| walk_at "nm") => `(tactic| first | dsimp only [cxOf] | skip)

section
variable {B : Bs} {mg : Str → Option Value} {base : Heap}
/-- fractions below one bound whose denominators go into one number -/
def sms (qs : List Rat) : Prop := qs.length ≤ 10000 ∧ ∃ M : Nat, 0 < M ∧ M < 2 ^ 4000 ∧ ∀ q ∈ qs, q.den ∣ M ∧ q.num.natAbs < 2 ^ 4000
def S_total (ds : List D) (e : D) : Prop := ∃ qs : List Rat, ds = [.lst (qs.map fr)] ∧ sms qs ∧ e = fr qs.sum
theorem map_get {α : Type} {qs : List α} {g : α → D} {i : Nat} {d : D} (h : (qs.map g)[i]? = some d) : ∃ q, qs[i]? = some q ∧ d = g q := by
  rw [List.getElem?_map] at h
  cases e : qs[i]? with
  | none => rw [e] at h; cases h
  | some q => rw [e] at h; exact ⟨q, rfl, (Option.some.inj h).symm⟩
theorem fzI (i : Int) : fz (.int i) = true := rfl
theorem ok_total (T : Txt B.K mg) : FnOk B.P B.w B.K mg base CX0 3 T.total.f T.total.d p_total (PSp B.P B.w B.K S_total) := by
  have G_ratio := ok_ratio (base := base) T
  have G_common := ok_common (base := base) T
  refine fn_pure T.total.F sc_total (fun ds e h => by obtain ⟨a, rfl, _⟩ := h; rfl) fun pp cdv A outer s H E ds e hr hS => ⟨_, (pss_cons (ps_set (i := 1) sc_total.nd rfl (Or.inr rfl) pe_int) (pss_cons (ps_for PassesOwn.never rfl (k_list (K := B.K) rfl (pv 0)) (pg_name (i := 2) sc_total.nd rfl (Or.inl rfl)) (pss_one (ps_set (i := 1) sc_total.nd rfl (Or.inr rfl) (pe_op op_fdivW (pe_op op_mulA (pv 1) (pe_ix (k_ix (K := B.K) rfl) (pv 2) pe_int (fun _ _ => rfl))) (pe_call G_common (hr.mono (by decide)) (by rfl) T.common.g T.common.F.kp T.common.b .nil pass0 (pa_cons (pv 1) (pa_cons (pe_ix (k_ix (K := B.K) rfl) (pv 2) pe_int (fun _ _ => rfl)) pa_nil))))))) (pss_one (ps_ret (pe_call G_ratio (hr.mono (by decide)) (by rfl) T.ratio.g T.ratio.F.kp T.ratio.b .nil pass0 (pa_cons (pe_callB (k_sum (K := B.K) rfl rfl) (by rfl) T.m_sum (by decide +kernel) (pa_cons (pe_lc (own := [("one", 2)]) rfl sc_total.nd (k_list (K := B.K) rfl (pv 0)) (blkOk_by (own := [("one", 2)]) (N := n_total) (sc := defScope s_total) (by decide +kernel)) (fun _ _ _ _ _ => (pg_name (i := 2) sc_total.nd rfl (Or.inl rfl))) (fun _ _ _ _ _ => pts_nil) (fun _ _ _ _ _ => (pe_op op_mulA (pe_ix (k_ix (K := B.K) rfl) (pv 2) pe_int (fun _ _ => rfl)) (pe_op op_fdivW (pv 1) (pe_ix (k_ix (K := B.K) rfl) (pv 2) pe_int (fun _ _ => rfl)))))) pa_nil)) (pa_cons (pv 1) pa_nil))))))), ?_⟩
  obtain ⟨qs, rfl, ⟨hl, M, hM, hMz, hq⟩, rfl⟩ := hS
  walk_at "nm"
  refine sg_ctx [some (.lst (qs.map fr)), none, none] rfl ?_
  refine sg_seq (sg_asg (by walk_at "ev") ?_)
  refine sg_seq (sg_for (wg_list (by walk_at "ev")) (fun i Γ => ∃ (L : Nat) (x : Option D), Γ = [some (.lst (qs.map fr)), some (.int L), x] ∧ 0 < L ∧ L ∣ M ∧ ∀ q ∈ qs.take i, q.den ∣ L) ⟨1, none, rfl, by decide, Nat.one_dvd _, by simp⟩ ?_ ?_)
  · rintro i d Γ hd ⟨L, x, rfl, hL, hLM, hx⟩
    obtain ⟨q, hi, rfl⟩ := map_get hd
    obtain ⟨hqd, hqn⟩ := hq q (List.mem_of_getElem? hi)
    refine ⟨[2], _, gg_name, ?_⟩
    have LM := Nat.le_of_dvd hM hLM
    have qM := Nat.le_of_dvd hM hqd
    have hg0 : 0 < Nat.gcd L q.den := Nat.gcd_pos_of_pos_left _ hL
    have hgL : Nat.gcd L q.den ≤ L := Nat.gcd_le_left _ hL
    refine sg_asg (eg_fdiv (eg_mul (by walk_at "ev") (by walk_at "ev") (sm_mulW (by rw [Int.natAbs_natCast]; omega) (by rw [Int.natAbs_natCast]; omega))) (eg_call (by walk_at "av") ⟨_, _, rfl, rfl⟩) ?_) ?_
    · rw [Int.gcd_natCast_natCast]
      exact wide_div (b := 4000) (by omega) (by rw [Int.natAbs_natCast]; omega) (by decide) (by decide)
    · rw [Int.gcd_natCast_natCast, ← Int.natCast_mul, ← Int.natCast_ediv]
      refine ⟨Nat.lcm L q.den, _, rfl, Nat.lcm_pos hL q.den_pos, Nat.lcm_dvd hLM hqd, fun p hp => ?_⟩
      rw [List.take_add_one, hi] at hp
      rcases List.mem_append.mp hp with hp | hp
      · exact Nat.dvd_trans (hx p hp) (Nat.dvd_lcm_left _ _)
      · have e : p = q := by simpa using hp
        rw [e]
        exact Nat.dvd_lcm_right _ _
  · rintro Γ ⟨L, x, rfl, hL, hLM, hx⟩
    rw [List.length_map, List.take_length] at hx
    have LM := Nat.le_of_dvd hM hLM
    have hds : ∀ q ∈ qs, (q.den : Int) ∣ L := fun q hq' => Int.natCast_dvd_natCast.mpr (hx q hq')
    refine sg_ret (eg_call (ag_cons (eg_bi (ag_cons (eg_is (eg_lcAll (xs := qs) (ee := fr) (js := [2]) (fun q => .int (q.num * ((L : Int) / (q.den : Int)))) (wg_list (by walk_at "ev")) (by decide) (by omega) fun q hq' => ⟨_, gg_name, eg_mul (by walk_at "ev") (eg_fdiv (by walk_at "ev") (by walk_at "ev") ?_) ?_, rfl⟩)
      (e := .lst ((qs.map fun q => q.num * ((L : Int) / (q.den : Int))).map D.int)) ?_) ag_nil) cg_sum) (ag_cons (by walk_at "ev") ag_nil)) ⟨_, _, rfl, by omega, by rw [Int.natAbs_natCast]; exact Nat.lt_of_le_of_lt LM (Nat.lt_trans hMz (Nat.pow_lt_pow_right (by decide) (by decide))), rfl⟩) ?_
    · have h1 := Nat.le_of_dvd hM (hq q hq').1
      exact wide_div (b := 4000) (den_posI q) (by rw [Int.natAbs_natCast]; omega) (by decide) (by decide)
    · refine sm_mulW (hq q hq').2 ?_
      rw [← Int.natCast_ediv, Int.natAbs_natCast]
      have := Nat.div_le_self L q.den
      omega
    · rw [List.map_map]
      rfl
    · exact congrArg fr (q_sum L (by omega) qs hds)
end
end Tl
end
section
set_option Elab.async false
set_option linter.all false
set_option maxRecDepth 100000
set_option maxHeartbeats 2000000
set_option autoImplicit false
set_option exponentiation.threshold 10000

/-! The law's own fractions. -/
namespace Tl
open PySem PySem.Spec PyProof.Rows L2
local macro_rules | `(tactic| walk_at "ev") => `(tactic| first
  | ((with_reducible refine' eg_var ?k1); (case k1 => exact rfl))
  | with_reducible exact eg_int
  | with_reducible exact eg_str
  | with_reducible exact eg_bl
  | with_reducible exact eg_non
  | ((with_reducible refine' eg_sub ?k1 ?k2); (case k1 => walk_at "ev"); (case k2 => walk_at "ev"))
  | ((with_reducible refine' eg_add ?k1 ?k2); (case k1 => walk_at "ev"); (case k2 => walk_at "ev"))
  | ((with_reducible refine' eg_lt ?k1 ?k2); (case k1 => walk_at "ev"); (case k2 => walk_at "ev"))
  | ((with_reducible refine' eg_le ?k1 ?k2); (case k1 => walk_at "ev"); (case k2 => walk_at "ev"))
  | ((with_reducible refine' eg_gt ?k1 ?k2); (case k1 => walk_at "ev"); (case k2 => walk_at "ev"))
  | ((with_reducible refine' eg_ge ?k1 ?k2); (case k1 => walk_at "ev"); (case k2 => walk_at "ev"))
  | ((with_reducible refine' eg_neg ?k1); (case k1 => walk_at "ev"))
  | ((with_reducible refine' eg_ixT ?k1 ?k2 ?k3); (case k1 => walk_at "ev"); (case k2 => walk_at "ev"); (case k3 => exact rfl))
  | ((with_reducible refine' eg_ixL ?k1 ?k2 ?k3); (case k1 => walk_at "ev"); (case k2 => walk_at "ev"); (case k3 => exact rfl))
  | ((with_reducible refine' eg_tup ?k1 ?k2); (case k1 => walk_at "av"); (case k2 => exact le1000 rfl))
  | ((with_reducible refine' eg_lst ?k1 ?k2); (case k1 => walk_at "av"); (case k2 => exact le1000 rfl))
  | ((with_reducible refine' eg_isN ?k1 ?k2); (case k1 => walk_at "ev"); (case k2 => exact rfl))
  | ((with_reducible refine' eg_notN ?k1 ?k2); (case k1 => walk_at "ev"); (case k2 => exact rfl))
  | ((with_reducible refine' eg_eqI ?k1 ?k2); (case k1 => walk_at "ev"); (case k2 => walk_at "ev"))
  | ((with_reducible refine' eg_eqStr ?k1 ?k2); (case k1 => walk_at "ev"); (case k2 => walk_at "ev"))
  | assumption)
local macro_rules | `(tactic| walk_at "av") => `(tactic| first
  | with_reducible exact ag_nil
  | ((with_reducible refine' ag_cons ?k1 ?k2); (case k1 => walk_at "ev"); (case k2 => walk_at "av")))
local macro_rules | `(tactic| walk_at "tv") => `(tactic| first
  | ((with_reducible refine' tg_test ?k1); (case k1 => walk_at "ev"))
  | ((with_reducible refine' tg_B ?k1); (case k1 => walk_at "ev"))
  | ((with_reducible refine' tg_not ?k1); (case k1 => walk_at "tv")))
local macro_rules | `(tactic| walk_at "nm") => `(tactic| first | dsimp only [cxOf] | skip)

section
variable {B : Bs} {mg : Str → Option Value} {base : Heap}
theorem gcd_mod (x : Int) {y : Int} (hy : 0 < y) : Int.gcd y (x % y) = Int.gcd x y := by
  have e := Int.gcd_mul_left_add_right y (x % y) (x / y)
  rw [Int.mul_ediv_add_emod] at e
  rw [← e, Int.gcd_comm]
def S_lcommon (ds : List D) (e : D) : Prop := ∃ a b : Int, ds = [.int a, .int b] ∧ 0 ≤ b ∧ e = .int (Int.gcd a b : Int)
theorem ok_law_common (T : Txt B.K mg) : FnOk B.P B.w B.K mg base CX0 1 T.law_common.f T.law_common.d p_law_common (PSp B.P B.w B.K S_lcommon) := by
  refine fn_pure T.law_common.F sc_law_common (fun ds e h => by obtain ⟨a, b, rfl, _⟩ := h; rfl) fun pp cdv A outer s H E ds e hr hS => ⟨_, (pss_cons (ps_while PassesOwn.never (pt_cmpR (k_ne (K := B.K) rfl hr.units) (pv 1) pe_int (nomark _)) (pss_one (ps_par (i := 0) (j := 1) rfl sc_law_common.nd rfl rfl (by decide) rfl rfl (pa_cons (pv 1) (pa_cons (pe_op op_mod (pe_callTy call_int1 (by rfl) T.m_int (by decide +kernel) (pa_cons (pv 0) pa_nil)) (pv 1)) pa_nil)) (by rfl)))) (pss_one (ps_ret (pe_callB call_abs (by rfl) T.m_abs (by decide +kernel) (pa_cons (pv 0) pa_nil))))), ?_⟩
  obtain ⟨a, b, rfl, hb, rfl⟩ := hS
  refine sg_ctx [some (.int a), some (.int b)] rfl ?_
  refine sg_seq (sg_while (fun m Γ => ∃ (x : Int) (y : Nat), Γ = [some (.int x), some (.int y)] ∧ y = m ∧ Int.gcd x y = Int.gcd a b) b.toNat ⟨a, b.toNat, by rw [Int.toNat_of_nonneg hb], rfl, by rw [Int.toNat_of_nonneg hb]⟩ ?_)
  rintro m Γ ⟨x, y, rfl, hm, hg⟩
  refine ⟨_, tg_test (eg_neS (by walk_at "ev") (by walk_at "ev") rfl rfl rfl), fun hb => ?_, fun hb => ?_⟩
  · have hy : (0 : Int) < y := by
      have h1 : ¬ V.int (y : Int) = V.int 0 := by simpa using hb
      have h2 : ¬ (y : Int) = 0 := fun z => h1 (by rw [z])
      omega
    refine sg_par (ag_cons (by walk_at "ev") (ag_cons (eg_mod (eg_bi (by walk_at "av") cg_int) (by walk_at "ev") hy) ag_nil)) ?_
    have hx := Int.emod_nonneg x (show (y : Int) ≠ 0 by omega)
    have hl := Int.emod_lt_of_pos x hy
    refine ⟨(x % y).toNat, by omega, y, (x % y).toNat, by rw [Int.toNat_of_nonneg hx]; rfl, rfl, ?_⟩
    rw [← hg, Int.toNat_of_nonneg hx]
    exact gcd_mod x hy
  · have hy0 : y = 0 := by
      have h1 : V.int (y : Int) = V.int 0 := by simpa using hb
      have h2 := V.int.inj h1
      omega
    subst hy0
    refine sg_ret (eg_bi (by walk_at "av") cg_abs) ?_
    show D.int x.natAbs = D.int (Int.gcd a b)
    rw [← hg]
    simp
def S_lfrac (ds : List D) (e : D) : Prop := ∃ t b : Int, ds = [.int t, .int b] ∧ 0 < b ∧ b.natAbs < 2 ^ 8900 ∧ e = fr (Rat.divInt t b)
theorem ok_law_frac (T : Txt B.K mg) : FnOk B.P B.w B.K mg base CX0 2 T.law_frac.f T.law_frac.d p_law_frac (PSp B.P B.w B.K S_lfrac) := by
  have G_law_common := ok_law_common (base := base) T
  refine fn_pure T.law_frac.F sc_law_frac (fun ds e h => by obtain ⟨a, b, rfl, _⟩ := h; rfl) fun pp cdv A outer s H E ds e hr hS => ⟨_, (pss_cons (ps_set (i := 2) sc_law_frac.nd rfl (Or.inl rfl) (pe_call G_law_common (hr.mono (by decide)) (by rfl) T.law_common.g T.law_common.F.kp T.law_common.b .nil pass0 (pa_cons (pv 0) (pa_cons (pv 1) pa_nil)))) (pss_one (ps_ret (pe_tupF (pa_cons (pe_op op_fdivW (pv 0) (pv 2)) (pa_cons (pe_op op_fdivW (pv 1) (pv 2)) pa_nil)))))), ?_⟩
  obtain ⟨t, b, rfl, hb, hz, rfl⟩ := hS
  refine sg_ctx [some (.int t), some (.int b), none] rfl ?_
  refine sg_seq (sg_asg (eg_call (by walk_at "av") ⟨t, b, rfl, by omega, rfl⟩) ?_)
  refine sg_ret (eg_tup (ag_cons (eg_fdiv (by walk_at "ev") (by walk_at "ev") (gcd_div t hb hz _)) (ag_cons (eg_fdiv (by walk_at "ev") (by walk_at "ev") (gcd_div t hb hz _)) ag_nil)) (le1000 rfl)) ?_
  exact (fr_divInt t b hb).symm
/-- the partial sums stay small -/
def smp (qs : List Rat) : Prop := qs.length ≤ 10000 ∧ ∀ i, i ≤ qs.length → sm (qs.take i).sum
def S_lsum (ds : List D) (e : D) : Prop := ∃ qs : List Rat, ds = [.lst (qs.map fr)] ∧ (∀ q ∈ qs, sm q) ∧ (∀ i, i ≤ qs.length → sm (qs.take i).sum) ∧ e = fr qs.sum
theorem fr_zero : fr 0 = .tup [.int 0, .int 1] := rfl
theorem sum_take1 {qs : List Rat} {i : Nat} {q : Rat} (h : qs[i]? = some q) : (qs.take (i + 1)).sum = (qs.take i).sum + q := by
  rw [List.take_add_one, h, List.sum_append]
  congr 1
  simp [Rat.add_zero]
theorem ok_law_sum (T : Txt B.K mg) : FnOk B.P B.w B.K mg base CX0 3 T.law_sum.f T.law_sum.d p_law_sum (PSp B.P B.w B.K S_lsum) := by
  have G_law_frac := ok_law_frac (base := base) T
  refine fn_pure T.law_sum.F sc_law_sum (fun ds e h => by obtain ⟨a, rfl, _⟩ := h; rfl) fun pp cdv A outer s H E ds e hr hS => ⟨_, (pss_cons (ps_asg (pe_tupF (pa_cons pe_int (pa_cons pe_int pa_nil))) (k_pg (K := B.K) (n := 2) rfl rfl (pgs_cons (pg_name (i := 1) sc_law_sum.nd rfl (Or.inl rfl)) (pgs_cons (pg_name (i := 2) sc_law_sum.nd rfl (Or.inl rfl)) pgs_nil)))) (pss_cons (ps_for PassesOwn.never rfl (k_list (K := B.K) rfl (pv 0)) (k_pg (K := B.K) (n := 2) rfl rfl (pgs_cons (pg_name (i := 3) sc_law_sum.nd rfl (Or.inl rfl)) (pgs_cons (pg_name (i := 4) sc_law_sum.nd rfl (Or.inl rfl)) pgs_nil))) (pss_one (ps_asg (pe_call G_law_frac (hr.mono (by decide)) (by rfl) T.law_frac.g T.law_frac.F.kp T.law_frac.b .nil pass0 (pa_cons (pe_op (k_add (K := B.K) rfl) (pe_op op_mulA (pv 1) (pv 4)) (pe_op op_mulA (pv 3) (pv 2))) (pa_cons (pe_op op_mulA (pv 2) (pv 4)) pa_nil))) (k_pg (K := B.K) (n := 2) rfl rfl (pgs_cons (pg_name (i := 1) sc_law_sum.nd rfl (Or.inl rfl)) (pgs_cons (pg_name (i := 2) sc_law_sum.nd rfl (Or.inl rfl)) pgs_nil)))))) (pss_one (ps_ret (pe_tupF (pa_cons (pv 1) (pa_cons (pv 2) pa_nil))))))), ?_⟩
  obtain ⟨qs, rfl, hq, hp, rfl⟩ := hS
  refine sg_ctx [some (.lst (qs.map fr)), none, none, none, none] rfl ?_
  refine sg_seq (sg_asgG (by walk_at "ev") gg_2 ?_)
  refine sg_seq (sg_for (wg_list (by walk_at "ev")) (fun i Γ => ∃ x y : Option D, Γ = [some (.lst (qs.map fr)), some (.int (qs.take i).sum.num), some (.int ((qs.take i).sum.den : Int)), x, y]) ⟨none, none, rfl⟩ ?_ ?_)
  · rintro i d Γ hd ⟨x, y, rfl⟩
    obtain ⟨q, hi, rfl⟩ := map_get hd
    have h1 := hq q (List.mem_of_getElem? hi)
    have hl : i < qs.length := (List.getElem?_eq_some_iff.mp hi).1
    have h2 := hp i (by omega)
    refine ⟨_, _, gg_2, ?_⟩
    refine sg_asgG (eg_call (ag_cons (eg_add (eg_mul (by walk_at "ev") (by walk_at "ev") (sm_mulW h2.1 (sm_den h1))) (eg_mul (by walk_at "ev") (by walk_at "ev") (sm_mulW h1.1 (sm_den h2))))
      (ag_cons (eg_mul (by walk_at "ev") (by walk_at "ev") (sm_mulW (sm_den h2) (sm_den h1))) ag_nil)) ⟨_, _, rfl, dens_pos _ _, sm_dens h2 h1, rfl⟩) gg_2 ?_
    rw [q_add, ← sum_take1 hi]
    exact ⟨_, _, rfl⟩
  · rintro Γ ⟨x, y, rfl⟩
    rw [List.length_map, List.take_length]
    refine sg_ret (by walk_at "ev") ?_
    exact rfl
def S_lproduct (ds : List D) (e : D) : Prop := ∃ p q : Rat, ds = [fr p, fr q] ∧ sm p ∧ sm q ∧ e = fr (p * q)
theorem ok_law_product (T : Txt B.K mg) : FnOk B.P B.w B.K mg base CX0 3 T.law_product.f T.law_product.d p_law_product (PSp B.P B.w B.K S_lproduct) := by
  have G_law_frac := ok_law_frac (base := base) T
  refine fn_pure T.law_product.F sc_law_product (fun ds e h => by obtain ⟨a, b, rfl, _⟩ := h; rfl) fun pp cdv A outer s H E ds e hr hS => ⟨_, (pss_one (ps_ret (pe_call G_law_frac (hr.mono (by decide)) (by rfl) T.law_frac.g T.law_frac.F.kp T.law_frac.b .nil pass0 (pa_cons (pe_op op_mulA (pe_ix (k_ix (K := B.K) rfl) (pv 0) pe_int (fun _ _ => rfl)) (pe_ix (k_ix (K := B.K) rfl) (pv 1) pe_int (fun _ _ => rfl))) (pa_cons (pe_op op_mulA (pe_ix (k_ix (K := B.K) rfl) (pv 0) pe_int (fun _ _ => rfl)) (pe_ix (k_ix (K := B.K) rfl) (pv 1) pe_int (fun _ _ => rfl))) pa_nil))))), ?_⟩
  obtain ⟨p, q, rfl, hp, hq, rfl⟩ := hS
  refine sg_ctx [some (fr p), some (fr q)] rfl ?_
  refine sg_ret (eg_call (ag_cons (eg_mul (by walk_at "ev") (by walk_at "ev") (sm_mulW hp.1 hq.1)) (ag_cons (eg_mul (by walk_at "ev") (by walk_at "ev") (sm_mulW (sm_den hp) (sm_den hq))) ag_nil)) ⟨_, _, rfl, dens_pos p q, sm_dens hp hq, rfl⟩) ?_
  exact congrArg fr (q_mul p q)
def S_lless (ds : List D) (e : D) : Prop := ∃ p q : Rat, ds = [fr p, fr q] ∧ sm p ∧ sm q ∧ e = .bl (decide (p < q))
theorem ok_law_less (T : Txt B.K mg) : FnOk B.P B.w B.K mg base CX0 1 T.law_less.f T.law_less.d p_law_less (PSp B.P B.w B.K S_lless) := by
  refine fn_pure T.law_less.F sc_law_less (fun ds e h => by obtain ⟨a, b, rfl, _⟩ := h; rfl) fun pp cdv A outer s H E ds e hr hS => ⟨_, (pss_one (ps_ret (pe_cmpR op_lt (pe_op op_mulA (pe_ix (k_ix (K := B.K) rfl) (pv 0) pe_int (fun _ _ => rfl)) (pe_ix (k_ix (K := B.K) rfl) (pv 1) pe_int (fun _ _ => rfl))) (pe_op op_mulA (pe_ix (k_ix (K := B.K) rfl) (pv 1) pe_int (fun _ _ => rfl)) (pe_ix (k_ix (K := B.K) rfl) (pv 0) pe_int (fun _ _ => rfl))) (nomark _)))), ?_⟩
  obtain ⟨p, q, rfl, hp, hq, rfl⟩ := hS
  refine sg_ctx [some (fr p), some (fr q)] rfl ?_
  refine sg_ret (eg_lt (eg_mul (by walk_at "ev") (by walk_at "ev") (sm_mulW hp.1 (sm_den hq))) (eg_mul (by walk_at "ev") (by walk_at "ev") (sm_mulW hq.1 (sm_den hp)))) ?_
  exact congrArg D.bl (q_lt p q)
end
end Tl
end
section
set_option Elab.async false
set_option linter.all false
set_option maxRecDepth 100000
set_option maxHeartbeats 2000000
set_option autoImplicit false
set_option exponentiation.threshold 10000

/-! What looks at the arguments. -/
namespace Tl
open PySem PySem.Spec PyProof.Rows L2
local macro_rules | `(tactic| walk_at "ev") => `(tactic| first
  | ((with_reducible refine' eg_var ?k1); (case k1 => exact rfl))
  | with_reducible exact eg_int
  | with_reducible exact eg_str
  | with_reducible exact eg_bl
  | with_reducible exact eg_non
  | ((with_reducible refine' eg_sub ?k1 ?k2); (case k1 => walk_at "ev"); (case k2 => walk_at "ev"))
  | ((with_reducible refine' eg_add ?k1 ?k2); (case k1 => walk_at "ev"); (case k2 => walk_at "ev"))
  | ((with_reducible refine' eg_lt ?k1 ?k2); (case k1 => walk_at "ev"); (case k2 => walk_at "ev"))
  | ((with_reducible refine' eg_le ?k1 ?k2); (case k1 => walk_at "ev"); (case k2 => walk_at "ev"))
  | ((with_reducible refine' eg_gt ?k1 ?k2); (case k1 => walk_at "ev"); (case k2 => walk_at "ev"))
  | ((with_reducible refine' eg_ge ?k1 ?k2); (case k1 => walk_at "ev"); (case k2 => walk_at "ev"))
  | ((with_reducible refine' eg_neg ?k1); (case k1 => walk_at "ev"))
  | ((with_reducible refine' eg_ixT ?k1 ?k2 ?k3); (case k1 => walk_at "ev"); (case k2 => walk_at "ev"); (case k3 => exact rfl))
  | ((with_reducible refine' eg_ixL ?k1 ?k2 ?k3); (case k1 => walk_at "ev"); (case k2 => walk_at "ev"); (case k3 => exact rfl))
  | ((with_reducible refine' eg_tup ?k1 ?k2); (case k1 => walk_at "av"); (case k2 => exact le1000 rfl))
  | ((with_reducible refine' eg_lst ?k1 ?k2); (case k1 => walk_at "av"); (case k2 => exact le1000 rfl))
  | ((with_reducible refine' eg_isN ?k1 ?k2); (case k1 => walk_at "ev"); (case k2 => exact rfl))
  | ((with_reducible refine' eg_notN ?k1 ?k2); (case k1 => walk_at "ev"); (case k2 => exact rfl))
  | ((with_reducible refine' eg_eqI ?k1 ?k2); (case k1 => walk_at "ev"); (case k2 => walk_at "ev"))
  | ((with_reducible refine' eg_eqStr ?k1 ?k2); (case k1 => walk_at "ev"); (case k2 => walk_at "ev"))
  | assumption)
local macro_rules | `(tactic| walk_at "av") => `(tactic| first
  | with_reducible exact ag_nil
  | ((with_reducible refine' ag_cons ?k1 ?k2); (case k1 => walk_at "ev"); (case k2 => walk_at "av")))
local macro_rules | `(tactic| walk_at "tv") => `(tactic| first
  | ((with_reducible refine' tg_test ?k1); (case k1 => walk_at "ev"))
  | ((with_reducible refine' tg_B ?k1); (case k1 => walk_at "ev"))
  | ((with_reducible refine' tg_not ?k1); (case k1 => walk_at "tv")))
local macro_rules | `(tactic| walk_at "nm") => `(tactic| first | dsimp only [cxOf] | skip)

section
variable {B : Bs} {mg : Str → Option Value} {base : Heap}
/-- the type's name, and whether it is an int, a row, a text -/
def isI : D → Option Bool
  | .int _ => some true
  | .bl _ => some false
  | .non => some false
  | .str _ => some false
  | .tup _ => some false
  | .lst _ => some false
  | _ => none
def S_is_integer (ds : List D) (e : D) : Prop := ∃ i : Int, ds = [.int i] ∧ e = .bl true
theorem ok_is_integer (T : Txt B.K mg) : FnOk B.P B.w B.K mg base CX0 1 T.is_integer.f T.is_integer.d p_is_integer (PSp B.P B.w B.K S_is_integer) := by
  refine fn_pure T.is_integer.F sc_is_integer (fun ds e h => by obtain ⟨a, rfl, _⟩ := h; rfl) fun pp cdv A outer s H E ds e hr hS => ⟨_, (pss_one (ps_ret (pe_and (pe_callB (k_isi (K := B.K) rfl) (by rfl) T.m_isinstance (by decide +kernel) (pa_cons (pv 0) (pa_cons (pe_bltn (v := .ty "int") (by rfl) T.m_int (by decide +kernel) rfl) pa_nil))) (pe_one (pe_not (pe_callB (k_isi (K := B.K) rfl) (by rfl) T.m_isinstance (by decide +kernel) (pa_cons (pv 0) (pa_cons (pe_bltn (v := .ty "bool") (by rfl) T.m_bool (by decide +kernel) rfl) pa_nil)))))))), ?_⟩
  obtain ⟨i, rfl, rfl⟩ := hS
  refine sg_ctx [some (.int i)] rfl ?_
  refine sg_ret (eg_andV (b := true) (eg_bi (ag_cons (by walk_at "ev") (ag_cons eg_raw ag_nil)) (cg_isi (n := "int") (b := true) rfl (by decide +kernel))) fun _ => eg_notV (a := false) (eg_bi (ag_cons (by walk_at "ev") (ag_cons eg_raw ag_nil)) (cg_isi (n := "int") rfl (by decide +kernel)))) ?_
  exact rfl
def S_is_row (ds : List D) (e : D) : Prop := ∃ r : List D, (ds = [.tup r] ∨ ds = [.lst r]) ∧ e = .bl true
theorem ok_is_row (T : Txt B.K mg) : FnOk B.P B.w B.K mg base CX0 1 T.is_row.f T.is_row.d p_is_row (PSp B.P B.w B.K S_is_row) := by
  refine fn_pure T.is_row.F sc_is_row (fun ds e h => by obtain ⟨a, rfl | rfl, _⟩ := h <;> rfl) fun pp cdv A outer s H E ds e hr hS => ⟨_, (pss_one (ps_ret (pe_callB (k_isiT (K := B.K) rfl) (by rfl) T.m_isinstance (by decide +kernel) (pa_cons (pv 0) (pa_cons (pe_tup (pa_cons (pe_bltn (v := .ty "list") (by rfl) T.m_list (by decide +kernel) rfl) (pa_cons (pe_bltn (v := .ty "tuple") (by rfl) T.m_tuple (by decide +kernel) rfl) pa_nil))) pa_nil))))), ?_⟩
  obtain ⟨r, rfl | rfl, rfl⟩ := hS
  · refine sg_ctx [some (.tup r)] rfl ?_
    refine sg_ret (eg_isi2 (by walk_at "ev") (n := "tuple") (b := false) (b2 := true) rfl (by decide +kernel) (by decide +kernel)) ?_
    exact rfl
  · refine sg_ctx [some (.lst r)] rfl ?_
    refine sg_ret (eg_isi2 (by walk_at "ev") (n := "list") (b := true) (b2 := false) rfl (by decide +kernel) (by decide +kernel)) ?_
    exact rfl
def S_is_pair (ds : List D) (e : D) : Prop := ∃ p : Int × Int, ds = [pr p] ∧ 1 ≤ p.2 ∧ e = .bl true
theorem ok_is_pair (T : Txt B.K mg) : FnOk B.P B.w B.K mg base CX0 2 T.is_pair.f T.is_pair.d p_is_pair (PSp B.P B.w B.K S_is_pair) := by
  have G_is_row := ok_is_row (base := base) T
  have G_is_integer := ok_is_integer (base := base) T
  refine fn_pure T.is_pair.F sc_is_pair (fun ds e h => by obtain ⟨a, rfl, _⟩ := h; rfl) fun pp cdv A outer s H E ds e hr hS => ⟨_, (pss_one (ps_ret (pe_and (pe_call G_is_row (hr.mono (by decide)) (by rfl) T.is_row.g T.is_row.F.kp T.is_row.b .nil pass0 (pa_cons (pv 0) pa_nil)) (pe_and (pe_cmpR (k_eq (K := B.K) rfl hr.units) (pe_callB (k_len (K := B.K) rfl) (by rfl) T.m_len (by decide +kernel) (pa_cons (pv 0) pa_nil)) pe_int (nomark _)) (pe_and (pe_call G_is_integer (hr.mono (by decide)) (by rfl) T.is_integer.g T.is_integer.F.kp T.is_integer.b .nil pass0 (pa_cons (pe_ix (k_ix (K := B.K) rfl) (pv 0) pe_int (fun _ _ => rfl)) pa_nil)) (pe_and (pe_call G_is_integer (hr.mono (by decide)) (by rfl) T.is_integer.g T.is_integer.F.kp T.is_integer.b .nil pass0 (pa_cons (pe_ix (k_ix (K := B.K) rfl) (pv 0) pe_int (fun _ _ => rfl)) pa_nil)) (pe_one (pe_cmpR op_ge (pe_ix (k_ix (K := B.K) rfl) (pv 0) pe_int (fun _ _ => rfl)) pe_int (nomark _))))))))), ?_⟩
  obtain ⟨p, rfl, h1, rfl⟩ := hS
  refine sg_ctx [some (pr p)] rfl ?_
  refine sg_ret (eg_is (eg_andV (a := true) (b := true) (eg_call (by walk_at "av") ⟨_, .inl rfl, rfl⟩) fun _ => eg_andV (a := true) (eg_is (eg_eqI (i := 2) (j := 2) (eg_bi (by walk_at "av") cg_lenT) (by walk_at "ev")) rfl) fun _ => eg_andV (a := true)
    (eg_call (ag_cons (eg_ixT (by walk_at "ev") (by walk_at "ev") rfl) ag_nil) ⟨_, rfl, rfl⟩) fun _ => eg_andV (a := true) (eg_call (ag_cons (eg_ixT (by walk_at "ev") (by walk_at "ev") rfl) ag_nil) ⟨_, rfl, rfl⟩) fun _ => eg_is (eg_ge (eg_ixT (d := .int p.2) (by walk_at "ev") (by walk_at "ev") rfl) (by walk_at "ev")) (congrArg D.bl (decide_eq_true h1))) rfl) ?_
  exact rfl
/-- towers as they are looked at -/
def TwOk (T : Tw) : Prop := Srt1 T ∧ (∀ p ∈ T, 1 ≤ p.2) ∧ T.length ≤ 1000
theorem at_nat {α : Type} {xs : List α} {i : Nat} {x : α} (h : xs[i]? = some x) : atI xs (i : Int) = some x := by
  have hl : i < xs.length := (List.getElem?_eq_some_iff.mp h).1
  unfold atI ixN
  rw [if_pos (by omega), if_pos (by omega)]
  show xs[((i : Int)).toNat]? = some x
  rw [Int.toNat_natCast]
  exact h
theorem tg_orF {t u : TT} {Γ : Gm} (h1 : TGd B t Γ false) (h2 : TGd B u Γ false) : TGd B (tOr t u) Γ false := tg_or h1 fun _ => h2
theorem tg_notT {t : TT} {Γ : Gm} (h1 : TGd B t Γ true) : TGd B (tNot t) Γ false := tg_not h1
theorem tg_andF {t u : TT} {Γ : Gm} {a : Bool} (h1 : TGd B t Γ a) (h2 : a = true → TGd B u Γ false) : TGd B (tAnd t u) Γ false := tg_is (tg_and h1 h2) (Bool.and_false a)
theorem srt1_at {T : Tw} (s : Srt1 T) {i j : Nat} {p q : Int × Int} (hi : T[i]? = some p) (hj : T[j]? = some q) (h : i < j) : p.1 < q.1 := by
  obtain ⟨h1, e1⟩ := List.getElem?_eq_some_iff.mp hi
  obtain ⟨h2, e2⟩ := List.getElem?_eq_some_iff.mp hj
  have z := List.pairwise_iff_getElem.mp s i j (by rw [List.length_map]; exact h1) (by rw [List.length_map]; exact h2) h
  rw [List.getElem_map, List.getElem_map, e1, e2] at z
  exact z
def S_wrong_at (ds : List D) (e : D) : Prop := ∃ T : Tw, ds = [tw T] ∧ TwOk T ∧ e = .non
theorem ok_wrong_at (T : Txt B.K mg) : FnOk B.P B.w B.K mg base CX0 3 T.wrong_at.f T.wrong_at.d p_wrong_at (PSp B.P B.w B.K S_wrong_at) := by
  have G_is_row := ok_is_row (base := base) T
  have G_is_pair := ok_is_pair (base := base) T
  refine fn_pure T.wrong_at.F sc_wrong_at (fun ds e h => by obtain ⟨a, rfl, _⟩ := h; rfl) fun pp cdv A outer s H E ds e hr hS => ⟨_, (pss_cons (ps_if (pt_not (pt_val (pe_call G_is_row (hr.mono (by decide)) (by rfl) T.is_row.g T.is_row.F.kp T.is_row.b .nil pass0 (pa_cons (pv 0) pa_nil)))) (pss_one (ps_ret (pe_un un_neg pe_int))) pss_nil) (pss_cons (ps_for PassesOwn.never rfl (k_enumX (K := B.K) rfl (by rfl) T.m_enumerate (pa_cons (pv 0) pa_nil)) (k_pg (K := B.K) (n := 2) rfl rfl (pgs_cons (pg_name (i := 1) sc_wrong_at.nd rfl (Or.inl rfl)) (pgs_cons (pg_name (i := 2) sc_wrong_at.nd rfl (Or.inl rfl)) pgs_nil))) (pss_one (ps_if (PW.pt (pw_or (pt_not (pt_val (pe_call G_is_pair (hr.mono (by decide)) (by rfl) T.is_pair.g T.is_pair.F.kp T.is_pair.b .nil pass0 (pa_cons (pv 2) pa_nil)))) (pw_or1 (PW.pt (pw_and (pt_cmpR op_gt (pv 1) pe_int (nomark _)) (pw_and1 (pt_cmpR op_ge (pe_ix (k_ix (K := B.K) rfl) (pe_ix (k_ix (K := B.K) rfl) (pv 0) (pe_op op_sub (pv 1) pe_int) (fun _ _ => rfl)) pe_int (fun _ _ => rfl)) (pe_ix (k_ix (K := B.K) rfl) (pv 2) pe_int (fun _ _ => rfl)) (nomark _)))))))) (pss_one (ps_ret (pv 1))) pss_nil))) (pss_one (ps_ret pe_non)))), ?_⟩
  obtain ⟨Tv, rfl, hT, rfl⟩ := hS
  refine sg_ctx [some (tw Tv), none, none] rfl ?_
  refine sg_seq (sg_if (tg_notT (tg_test (eg_call (by walk_at "av") ⟨_, .inl rfl, rfl⟩))) (fun h => absurd h Bool.false_ne_true) fun _ => sg_next ?_)
  refine sg_seq (sg_for (wg_enT (by walk_at "av")) (fun i Γ => ∃ x y : Option D, Γ = [some (tw Tv), x, y]) ⟨none, none, rfl⟩ ?_ ?_)
  · rintro i d Γ hd ⟨x, y, rfl⟩
    obtain ⟨e, he, rfl⟩ := enD_get hd
    obtain ⟨p, hp, rfl⟩ := map_get he
    refine ⟨_, _, gg_2, ?_⟩
    refine sg_if (tg_orF (tg_notT (tg_test (eg_call (by walk_at "av") ⟨p, rfl, hT.2.1 p (List.mem_of_getElem? hp), rfl⟩))) (tg_andF (by walk_at "tv") fun h => ?_)) (fun h => absurd h Bool.false_ne_true) fun _ => sg_next ⟨_, _, rfl⟩
    have h0 : (0 : Int) < i := of_decide_eq_true h
    obtain ⟨j, rfl⟩ : ∃ j, i = j + 1 := ⟨i - 1, by omega⟩
    obtain ⟨q, hq⟩ : ∃ q, Tv[j]? = some q := ⟨_, List.getElem?_eq_getElem (by have := (List.getElem?_eq_some_iff.mp hp).1; omega)⟩
    have hl := srt1_at hT.1 hq hp (Nat.lt_succ_self _)
    refine tg_is (tg_test (eg_ge (i := q.1) (j := p.1) (eg_ixT (ds := [.int q.1, .int q.2]) (eg_ixT (i := ((j + 1 : Nat) : Int) - 1) (by walk_at "ev") (by walk_at "ev") ?_) (by walk_at "ev") rfl) (by walk_at "ev"))) (decide_eq_false (by omega))
    have e : ((j + 1 : Nat) : Int) - 1 = (j : Nat) := by omega
    rw [e]
    exact at_nat (by rw [List.getElem?_map, hq]; rfl)
  · rintro Γ ⟨x, y, rfl⟩
    refine sg_ret (by walk_at "ev") ?_
    exact rfl
def S_checked (ds : List D) (e : D) : Prop := ∃ T : Tw, ds = [tw T] ∧ TwOk T ∧ e = tw T
theorem ok_checked (T : Txt B.K mg) : FnOk B.P B.w B.K mg base CX0 4 T.checked.f T.checked.d p_checked (PSp B.P B.w B.K S_checked) := by
  have G_wrong_at := ok_wrong_at (base := base) T
  refine fn_pure T.checked.F sc_checked (fun ds e h => by obtain ⟨a, rfl, _⟩ := h; rfl) fun pp cdv A outer s H E ds e hr hS => ⟨_, (pss_cons (ps_set (i := 1) sc_checked.nd rfl (Or.inl rfl) (pe_call G_wrong_at (hr.mono (by decide)) (by rfl) T.wrong_at.g T.wrong_at.F.kp T.wrong_at.b .nil pass0 (pa_cons (pv 0) pa_nil))) (pss_cons (ps_if (pt_cmpR op_notNn (pv 1) pe_non (nomark _)) pss_never pss_nil) (pss_one (ps_ret (pe_callTy (call_tupF (K := B.K) rfl) (by rfl) T.m_tuple (by decide +kernel) (pa_cons (pe_lc (own := [("key", 2), ("height", 3)]) rfl sc_checked.nd (k_tup (K := B.K) rfl (pv 0)) (blkOk_by (own := [("key", 2), ("height", 3)]) (N := n_checked) (sc := defScope s_checked) (by decide +kernel)) (fun _ _ _ _ _ => (k_pg (K := B.K) (n := 2) rfl rfl (pgs_cons (pg_name (i := 2) sc_checked.nd rfl (Or.inl rfl)) (pgs_cons (pg_name (i := 3) sc_checked.nd rfl (Or.inl rfl)) pgs_nil)))) (fun _ _ _ _ _ => pts_nil) (fun _ _ _ _ _ => (pe_tupF (pa_cons (pv 2) (pa_cons (pv 3) pa_nil))))) pa_nil)))))), ?_⟩
  obtain ⟨Tv, rfl, hT, rfl⟩ := hS
  refine sg_ctx [some (tw Tv), none, none, none] rfl ?_
  refine sg_seq (sg_asg (eg_call (by walk_at "av") ⟨_, rfl, hT, rfl⟩) ?_)
  refine sg_seq (sg_if (tg_test (eg_notN (by walk_at "ev") (b := true) rfl)) (fun h => absurd h Bool.false_ne_true) fun _ => sg_next ?_)
  refine sg_ret (eg_bi (ag_cons (eg_lcAll (xs := Tv) (ee := pr) (js := [2] ++ ([3] ++ [])) pr (wg_tup (by walk_at "ev")) (by decide) (by have := hT.2.2; omega) fun p hp => ⟨_, gg_2, by walk_at "ev", rfl⟩) ag_nil) cg_tupleL) ?_
  exact rfl
def S_look_key (ds : List D) (e : D) : Prop := ∃ i : Int, ds = [.int i] ∧ e = .non
theorem ok_look_key (T : Txt B.K mg) : FnOk B.P B.w B.K mg base CX0 2 T.look_key.f T.look_key.d p_look_key (PSp B.P B.w B.K S_look_key) := by
  have G_is_integer := ok_is_integer (base := base) T
  refine fn_pure T.look_key.F sc_look_key (fun ds e h => by obtain ⟨a, rfl, _⟩ := h; rfl) fun pp cdv A outer s H E ds e hr hS => ⟨_, (pss_one (ps_if (pt_not (pt_val (pe_call G_is_integer (hr.mono (by decide)) (by rfl) T.is_integer.g T.is_integer.F.kp T.is_integer.b .nil pass0 (pa_cons (pv 0) pa_nil)))) pss_never pss_nil)), ?_⟩
  obtain ⟨i, rfl, rfl⟩ := hS
  refine sg_ctx [some (.int i)] rfl ?_
  exact sg_if (tg_notT (tg_test (eg_call (by walk_at "av") ⟨_, rfl, rfl⟩))) (fun h => absurd h Bool.false_ne_true) fun _ => sg_next rfl
def S_look_from (ds : List D) (e : D) : Prop := ∃ v l m : Int, ds = [.int v, .int l, .int m] ∧ l ≤ v ∧ v ≤ m ∧ e = .non
theorem ok_look_from (T : Txt B.K mg) : FnOk B.P B.w B.K mg base CX0 2 T.look_from.f T.look_from.d p_look_from (PSp B.P B.w B.K S_look_from) := by
  have G_is_integer := ok_is_integer (base := base) T
  refine fn_pure T.look_from.F sc_look_from (fun ds e h => by obtain ⟨a, b, c, rfl, _⟩ := h; rfl) fun pp cdv A outer s H E ds e hr hS => ⟨_, (pss_one (ps_if (PW.pt (pw_or (pt_not (pt_val (pe_call G_is_integer (hr.mono (by decide)) (by rfl) T.is_integer.g T.is_integer.F.kp T.is_integer.b .nil pass0 (pa_cons (pv 0) pa_nil)))) (pw_or (pt_cmpR op_lt (pv 0) (pv 1) (nomark _)) (pw_or1 (PW.pt (pw_and (pt_cmpR op_notNn (pv 2) pe_non (nomark _)) (pw_and1 (pt_cmpR op_gt (pv 0) (pv 2) (nomark _))))))))) pss_never pss_nil)), ?_⟩
  obtain ⟨v, l, m, rfl, h1, h2, rfl⟩ := hS
  refine sg_ctx [some (.int v), some (.int l), some (.int m)] rfl ?_
  refine sg_if (tg_orF (tg_notT (tg_test (eg_call (by walk_at "av") ⟨_, rfl, rfl⟩))) (tg_orF (tg_is (by walk_at "tv") (decide_eq_false (by omega))) (tg_andF (a := true) (tg_test (eg_notN (by walk_at "ev") (b := false) rfl)) fun _ => tg_is (by walk_at "tv") (decide_eq_false (by omega))))) (fun h => absurd h Bool.false_ne_true) fun _ => sg_next rfl
def S_highest (ds : List D) (e : D) : Prop := ∃ T : Tw, ds = [tw T] ∧ TwOk T ∧ e = .int (hi T)
theorem hi_list {T : Tw} (h : ∀ p ∈ T, 1 ≤ p.2) : (T.map (·.2) = [] → hi T = 0) ∧ (T.map (·.2) ≠ [] → hi T ∈ T.map (·.2) ∧ ∀ y ∈ T.map (·.2), y ≤ hi T) := by
  refine ⟨fun e => ?_, fun e => ?_⟩
  · rw [List.map_eq_nil_iff] at e
    rw [e]
    rfl
  · obtain ⟨p, hp, e2⟩ := hi_mem (T := T) (fun z => e (by rw [z]; rfl)) fun p hp => by have := h p hp; omega
    refine ⟨by rw [← e2]; exact List.mem_map.mpr ⟨p, hp, rfl⟩, fun y hy => ?_⟩
    obtain ⟨q, hq, rfl⟩ := List.mem_map.mp hy
    exact hi_ge hq
theorem ok_highest (T : Txt B.K mg) : FnOk B.P B.w B.K mg base CX0 1 T.highest.f T.highest.d p_highest (PSp B.P B.w B.K S_highest) := by
  refine fn_pure T.highest.F sc_highest (fun ds e h => by obtain ⟨a, rfl, _⟩ := h; rfl) fun pp cdv A outer s H E ds e hr hS => ⟨_, (pss_one (ps_ret (pe_callBK (k_maxDf (K := B.K) rfl rfl) (by rfl) T.m_max (by decide +kernel) (pa_cons (pe_lc (own := [("key", 1), ("height", 2)]) rfl sc_highest.nd (k_tup (K := B.K) rfl (pv 0)) (blkOk_by (own := [("key", 1), ("height", 2)]) (N := n_highest) (sc := defScope s_highest) (by decide +kernel)) (fun _ _ _ _ _ => (k_pg (K := B.K) (n := 2) rfl rfl (pgs_cons (pg_name (i := 1) sc_highest.nd rfl (Or.inl rfl)) (pgs_cons (pg_name (i := 2) sc_highest.nd rfl (Or.inl rfl)) pgs_nil)))) (fun _ _ _ _ _ => pts_nil) (fun _ _ _ _ _ => (pv 2))) pa_nil) (pk_cons pe_int pk_nil)))), ?_⟩
  obtain ⟨Tv, rfl, hT, rfl⟩ := hS
  refine sg_ctx [some (tw Tv), none, none] rfl ?_
  refine sg_ret (eg_maxd (ag_cons (eg_is (eg_lcAll (xs := Tv) (ee := pr) (js := [1] ++ ([2] ++ [])) (fun p => .int p.2) (wg_tup (by walk_at "ev")) (by decide) (by have := hT.2.2; omega) fun p hp => ⟨_, gg_2, by walk_at "ev", rfl⟩) (by rw [List.map_map]; rfl)) ag_nil) (by walk_at "av") (hi_list hT.2.1).1 (hi_list hT.2.1).2) ?_
  exact rfl
end
end Tl
end
section
set_option Elab.async false
set_option linter.all false
set_option maxRecDepth 100000
set_option maxHeartbeats 2000000
set_option autoImplicit false
set_option exponentiation.threshold 10000

/-! Rules, chances, manners; places, towers put in and out, shares. -/
namespace Tl
open PySem PySem.Spec PyProof.Rows L2
local macro_rules | `(tactic| walk_at "ev") => `(tactic| first
  | ((with_reducible refine' eg_var ?k1); (case k1 => exact rfl))
  | with_reducible exact eg_int
  | with_reducible exact eg_str
  | with_reducible exact eg_bl
  | with_reducible exact eg_non
  | ((with_reducible refine' eg_sub ?k1 ?k2); (case k1 => walk_at "ev"); (case k2 => walk_at "ev"))
  | ((with_reducible refine' eg_add ?k1 ?k2); (case k1 => walk_at "ev"); (case k2 => walk_at "ev"))
  | ((with_reducible refine' eg_lt ?k1 ?k2); (case k1 => walk_at "ev"); (case k2 => walk_at "ev"))
  | ((with_reducible refine' eg_le ?k1 ?k2); (case k1 => walk_at "ev"); (case k2 => walk_at "ev"))
  | ((with_reducible refine' eg_gt ?k1 ?k2); (case k1 => walk_at "ev"); (case k2 => walk_at "ev"))
  | ((with_reducible refine' eg_ge ?k1 ?k2); (case k1 => walk_at "ev"); (case k2 => walk_at "ev"))
  | ((with_reducible refine' eg_neg ?k1); (case k1 => walk_at "ev"))
  | ((with_reducible refine' eg_ixT ?k1 ?k2 ?k3); (case k1 => walk_at "ev"); (case k2 => walk_at "ev"); (case k3 => exact rfl))
  | ((with_reducible refine' eg_ixL ?k1 ?k2 ?k3); (case k1 => walk_at "ev"); (case k2 => walk_at "ev"); (case k3 => exact rfl))
  | ((with_reducible refine' eg_tup ?k1 ?k2); (case k1 => walk_at "av"); (case k2 => exact le1000 rfl))
  | ((with_reducible refine' eg_lst ?k1 ?k2); (case k1 => walk_at "av"); (case k2 => exact le1000 rfl))
  | ((with_reducible refine' eg_isN ?k1 ?k2); (case k1 => walk_at "ev"); (case k2 => exact rfl))
  | ((with_reducible refine' eg_notN ?k1 ?k2); (case k1 => walk_at "ev"); (case k2 => exact rfl))
  | ((with_reducible refine' eg_eqI ?k1 ?k2); (case k1 => walk_at "ev"); (case k2 => walk_at "ev"))
  | ((with_reducible refine' eg_eqStr ?k1 ?k2); (case k1 => walk_at "ev"); (case k2 => walk_at "ev"))
  | assumption)
local macro_rules | `(tactic| walk_at "av") => `(tactic| first
  | with_reducible exact ag_nil
  | ((with_reducible refine' ag_cons ?k1 ?k2); (case k1 => walk_at "ev"); (case k2 => walk_at "av")))
local macro_rules | `(tactic| walk_at "tv") => `(tactic| first
  | ((with_reducible refine' tg_test ?k1); (case k1 => walk_at "ev"))
  | ((with_reducible refine' tg_B ?k1); (case k1 => walk_at "ev"))
  | ((with_reducible refine' tg_not ?k1); (case k1 => walk_at "tv")))
local macro_rules | `(tactic| walk_at "nm") => `(tactic| first | dsimp only [cxOf] | skip)

section
variable {B : Bs} {mg : Str → Option Value} {base : Heap}
/-- a row: a list or a tuple -/
def row (l : Bool) (ds : List D) : D := if l = true then .lst ds else .tup ds
abbrev rW (c : Bool) : Str := if c = true then "cap" else "step"
abbrev rl (c : Bool) (m : Int) : List D := [.str (rW c), .int m]
def S_is_rule (ds : List D) (e : D) : Prop := ∃ (l c : Bool) (m : Int), ds = [row l (rl c m)] ∧ 1 ≤ m ∧ m ≤ 64 ∧ e = .bl true
theorem ok_is_rule (T : Txt B.K mg) : FnOk B.P B.w B.K mg base CX0 2 T.is_rule.f T.is_rule.d p_is_rule (PSp B.P B.w B.K S_is_rule) := by
  have G_is_row := ok_is_row (base := base) T
  have G_is_integer := ok_is_integer (base := base) T
  refine fn_pure T.is_rule.F sc_is_rule (fun ds e h => by obtain ⟨a, b, c, rfl, _⟩ := h; rfl) fun pp cdv A outer s H E ds e hr hS => ⟨_, (pss_cons (ps_if (PW.pt (pw_or (pt_not (pt_val (pe_call G_is_row (hr.mono (by decide)) (by rfl) T.is_row.g T.is_row.F.kp T.is_row.b .nil pass0 (pa_cons (pv 0) pa_nil)))) (pw_or (pt_cmpR (k_eq (K := B.K) rfl hr.units) (pe_callB (k_len (K := B.K) rfl) (by rfl) T.m_len (by decide +kernel) (pa_cons (pv 0) pa_nil)) pe_int (nomark _)) (pw_or1 (pt_not (pt_val (pe_callB (k_isi (K := B.K) rfl) (by rfl) T.m_isinstance (by decide +kernel) (pa_cons (pe_ix (k_ix (K := B.K) rfl) (pv 0) pe_int (fun _ _ => rfl)) (pa_cons (pe_bltn (v := .ty "str") (by rfl) T.m_str (by decide +kernel) rfl) pa_nil))))))))) (pss_one (ps_ret pe_bl)) pss_nil) (pss_cons (ps_if (pt_cmpR (k_eq (K := B.K) rfl hr.units) (pe_callB (k_len (K := B.K) rfl) (by rfl) T.m_len (by decide +kernel) (pa_cons (pv 0) pa_nil)) pe_int (nomark _)) (pss_one (ps_ret (pe_cmpR (k_in (K := B.K) rfl (hu_of hr)) (pe_ix (k_ix (K := B.K) rfl) (pv 0) pe_int (fun _ _ => rfl)) (pe_tupF (pa_cons pe_str (pa_cons pe_str pa_nil))) (by rfl)))) pss_nil) (pss_one (ps_ret (pe_and (pe_cmpR (k_eq (K := B.K) rfl hr.units) (pe_callB (k_len (K := B.K) rfl) (by rfl) T.m_len (by decide +kernel) (pa_cons (pv 0) pa_nil)) pe_int (nomark _)) (pe_and (pe_cmpR (k_in (K := B.K) rfl (hu_of hr)) (pe_ix (k_ix (K := B.K) rfl) (pv 0) pe_int (fun _ _ => rfl)) (pe_tupF (pa_cons pe_str (pa_cons pe_str pa_nil))) (by rfl)) (pe_and (pe_call G_is_integer (hr.mono (by decide)) (by rfl) T.is_integer.g T.is_integer.F.kp T.is_integer.b .nil pass0 (pa_cons (pe_ix (k_ix (K := B.K) rfl) (pv 0) pe_int (fun _ _ => rfl)) pa_nil)) (pe_one (pe_chain op_le op_le pe_int (pe_ix (k_ix (K := B.K) rfl) (pv 0) pe_int (fun _ _ => rfl)) (pe_glob (by rfl) T.c_MOST_CAP_coins.g T.c_MOST_CAP_coins.r)))))))))), ?_⟩
  obtain ⟨l, c, m, rfl, h1, h2, rfl⟩ := hS
  have hk : (1 ≤ m) ∧ (m ≤ 64) := ⟨h1, h2⟩
  cases l
  · refine sg_ctx [some (.tup (rl c m))] rfl ?_
    refine sg_seq (sg_if (tg_orF (tg_notT (tg_test (eg_call (by walk_at "av") ⟨_, .inl rfl, rfl⟩))) (tg_orF (tg_is (b := decide (((rl c m).length : Int) = 0)) (tg_test (eg_eqI (eg_bi (by walk_at "av") cg_lenT) (by walk_at "ev"))) rfl) (tg_notT (tg_test (eg_bi (ag_cons (eg_ixT (d := .str (rW c)) (by walk_at "ev") (by walk_at "ev") rfl) (ag_cons eg_raw ag_nil)) (cg_isi (n := "str") rfl (by decide +kernel))))))) (fun h => absurd h Bool.false_ne_true) fun _ => sg_next ?_)
    refine sg_seq (sg_if (tg_is (b := decide (((rl c m).length : Int) = 1)) (tg_test (eg_eqI (eg_bi (by walk_at "av") cg_lenT) (by walk_at "ev"))) rfl) (fun h => absurd h Bool.false_ne_true) fun _ => sg_next ?_)
    refine sg_ret (eg_is (eg_andV (a := true) (eg_is (eg_eqI (i := ((rl c m).length : Int)) (j := 2) (eg_bi (by walk_at "av") cg_lenT) (by walk_at "ev")) rfl) fun _ => eg_andV (a := true) (eg_is (eg_inT (eg_ixT (d := .str (rW c)) (by walk_at "ev") (by walk_at "ev") rfl) (by walk_at "ev") rfl rfl) (by cases c <;> exact congrArg D.bl (by decide +kernel))) fun _ => eg_andV (a := true) (eg_call (ag_cons (eg_ixT (d := .int m) (by walk_at "ev") (by walk_at "ev") rfl) ag_nil) ⟨_, rfl, rfl⟩) fun _ =>
      eg_is (e := .bl true) (eg_chain (y := .int m) (by walk_at "ev") (eg_ixT (by walk_at "ev") (by walk_at "ev") rfl) eg_int og_le og_le) (by rw [decide_eq_true h1, decide_eq_true h2]; rfl)) rfl) ?_
    exact rfl
  · refine sg_ctx [some (.lst (rl c m))] rfl ?_
    refine sg_seq (sg_if (tg_orF (tg_notT (tg_test (eg_call (by walk_at "av") ⟨_, .inr rfl, rfl⟩))) (tg_orF (tg_is (b := decide (((rl c m).length : Int) = 0)) (tg_test (eg_eqI (eg_bi (by walk_at "av") cg_lenL) (by walk_at "ev"))) rfl) (tg_notT (tg_test (eg_bi (ag_cons (eg_ixL (d := .str (rW c)) (by walk_at "ev") (by walk_at "ev") rfl) (ag_cons eg_raw ag_nil)) (cg_isi (n := "str") rfl (by decide +kernel))))))) (fun h => absurd h Bool.false_ne_true) fun _ => sg_next ?_)
    refine sg_seq (sg_if (tg_is (b := decide (((rl c m).length : Int) = 1)) (tg_test (eg_eqI (eg_bi (by walk_at "av") cg_lenL) (by walk_at "ev"))) rfl) (fun h => absurd h Bool.false_ne_true) fun _ => sg_next ?_)
    refine sg_ret (eg_is (eg_andV (a := true) (eg_is (eg_eqI (i := ((rl c m).length : Int)) (j := 2) (eg_bi (by walk_at "av") cg_lenL) (by walk_at "ev")) rfl) fun _ => eg_andV (a := true) (eg_is (eg_inT (eg_ixL (d := .str (rW c)) (by walk_at "ev") (by walk_at "ev") rfl) (by walk_at "ev") rfl rfl) (by cases c <;> exact congrArg D.bl (by decide +kernel))) fun _ => eg_andV (a := true) (eg_call (ag_cons (eg_ixL (d := .int m) (by walk_at "ev") (by walk_at "ev") rfl) ag_nil) ⟨_, rfl, rfl⟩) fun _ =>
      eg_is (e := .bl true) (eg_chain (y := .int m) (by walk_at "ev") (eg_ixL (by walk_at "ev") (by walk_at "ev") rfl) eg_int og_le og_le) (by rw [decide_eq_true h1, decide_eq_true h2]; rfl)) rfl) ?_
    exact rfl
def S_look_rule (ds : List D) (e : D) : Prop := ∃ (l c : Bool) (m : Int), ds = [row l (rl c m)] ∧ 1 ≤ m ∧ m ≤ 64 ∧ e = .non
theorem ok_look_rule (T : Txt B.K mg) : FnOk B.P B.w B.K mg base CX0 3 T.look_rule.f T.look_rule.d p_look_rule (PSp B.P B.w B.K S_look_rule) := by
  have G_is_rule := ok_is_rule (base := base) T
  refine fn_pure T.look_rule.F sc_look_rule (fun ds e h => by obtain ⟨a, b, c, rfl, _⟩ := h; rfl) fun pp cdv A outer s H E ds e hr hS => ⟨_, (pss_one (ps_if (pt_not (pt_val (pe_call G_is_rule (hr.mono (by decide)) (by rfl) T.is_rule.g T.is_rule.F.kp T.is_rule.b .nil pass0 (pa_cons (pv 0) pa_nil)))) pss_never pss_nil)), ?_⟩
  obtain ⟨l, c, m, rfl, h1, h2, rfl⟩ := hS
  refine sg_ctx [some (row l (rl c m))] rfl ?_
  exact sg_if (tg_notT (tg_test (eg_call (by walk_at "av") ⟨_, _, _, rfl, h1, h2, rfl⟩))) (fun h => absurd h Bool.false_ne_true) fun _ => sg_next rfl
def S_look_finite (ds : List D) (e : D) : Prop := ∃ (l c : Bool) (m : Int), ds = [row l (rl c m)] ∧ 1 ≤ m ∧ m ≤ 64 ∧ e = .non
theorem ok_look_finite (T : Txt B.K mg) : FnOk B.P B.w B.K mg base CX0 4 T.look_finite.f T.look_finite.d p_look_finite (PSp B.P B.w B.K S_look_finite) := by
  have G_look_rule := ok_look_rule (base := base) T
  refine fn_pure T.look_finite.F sc_look_finite (fun ds e h => by obtain ⟨a, b, c, rfl, _⟩ := h; rfl) fun pp cdv A outer s H E ds e hr hS => ⟨_, (pss_cons (ps_expr (pe_call G_look_rule (hr.mono (by decide)) (by rfl) T.look_rule.g T.look_rule.F.kp T.look_rule.b .nil pass0 (pa_cons (pv 0) pa_nil))) (pss_one (ps_if (pt_cmpR (k_eq (K := B.K) rfl hr.units) (pe_ix (k_ix (K := B.K) rfl) (pv 0) pe_int (fun _ _ => rfl)) pe_str (nomark _)) pss_never pss_nil))), ?_⟩
  obtain ⟨l, c, m, rfl, h1, h2, rfl⟩ := hS
  have hc : ¬ rW c = "free" := by cases c <;> decide +kernel
  cases l
  · refine sg_ctx [some (.tup (rl c m))] rfl ?_
    refine sg_seq (sg_drop (eg_call (by walk_at "av") ⟨false, _, _, rfl, h1, h2, rfl⟩) ?_)
    exact sg_if (tg_is (tg_test (eg_eqStr (eg_ixT (d := .str (rW c)) (by walk_at "ev") (by walk_at "ev") rfl) (by walk_at "ev"))) (decide_eq_false hc)) (fun h => absurd h Bool.false_ne_true) fun _ => sg_next rfl
  · refine sg_ctx [some (.lst (rl c m))] rfl ?_
    refine sg_seq (sg_drop (eg_call (by walk_at "av") ⟨true, _, _, rfl, h1, h2, rfl⟩) ?_)
    exact sg_if (tg_is (tg_test (eg_eqStr (eg_ixL (d := .str (rW c)) (by walk_at "ev") (by walk_at "ev") rfl) (by walk_at "ev"))) (decide_eq_false hc)) (fun h => absurd h Bool.false_ne_true) fun _ => sg_next rfl
abbrev chD (a b : Int) : List D := [.int a, .int b]
def S_is_chance (ds : List D) (e : D) : Prop := ∃ (l : Bool) (a b : Int), ds = [row l (chD a b)] ∧ 0 < a ∧ a < b ∧ b ≤ 1000 ∧ e = .bl true
theorem ok_is_chance (T : Txt B.K mg) : FnOk B.P B.w B.K mg base CX0 2 T.is_chance.f T.is_chance.d p_is_chance (PSp B.P B.w B.K S_is_chance) := by
  have G_is_row := ok_is_row (base := base) T
  have G_is_integer := ok_is_integer (base := base) T
  refine fn_pure T.is_chance.F sc_is_chance (fun ds e h => by obtain ⟨a, b, c, rfl, _⟩ := h; rfl) fun pp cdv A outer s H E ds e hr hS => ⟨_, (pss_cons (ps_if (PW.pt (pw_or (pt_not (pt_val (pe_call G_is_row (hr.mono (by decide)) (by rfl) T.is_row.g T.is_row.F.kp T.is_row.b .nil pass0 (pa_cons (pv 0) pa_nil)))) (pw_or (pt_cmpR (k_ne (K := B.K) rfl hr.units) (pe_callB (k_len (K := B.K) rfl) (by rfl) T.m_len (by decide +kernel) (pa_cons (pv 0) pa_nil)) pe_int (nomark _)) (pw_or (pt_not (pt_val (pe_call G_is_integer (hr.mono (by decide)) (by rfl) T.is_integer.g T.is_integer.F.kp T.is_integer.b .nil pass0 (pa_cons (pe_ix (k_ix (K := B.K) rfl) (pv 0) pe_int (fun _ _ => rfl)) pa_nil)))) (pw_or1 (pt_not (pt_val (pe_call G_is_integer (hr.mono (by decide)) (by rfl) T.is_integer.g T.is_integer.F.kp T.is_integer.b .nil pass0 (pa_cons (pe_ix (k_ix (K := B.K) rfl) (pv 0) pe_int (fun _ _ => rfl)) pa_nil))))))))) (pss_one (ps_ret pe_bl)) pss_nil) (pss_one (ps_ret (pe_chain3 op_lt op_lt op_le pe_int (pe_ix (k_ix (K := B.K) rfl) (pv 0) pe_int (fun _ _ => rfl)) (pe_ix (k_ix (K := B.K) rfl) (pv 0) pe_int (fun _ _ => rfl)) (pe_glob (by rfl) T.c_MOST_BELOW.g T.c_MOST_BELOW.r))))), ?_⟩
  obtain ⟨l, a, b, rfl, h1, h2, h3, rfl⟩ := hS
  cases l
  · refine sg_ctx [some (.tup (chD a b))] rfl ?_
    refine sg_seq (sg_if (tg_orF (tg_notT (tg_test (eg_call (by walk_at "av") ⟨_, .inl rfl, rfl⟩))) (tg_orF (tg_is (b := !decide (V.int ((chD a b).length : Int) = V.int 2)) (tg_test (eg_neS (eg_bi (by walk_at "av") cg_lenT) (by walk_at "ev") rfl rfl rfl)) rfl) (tg_orF (tg_notT (tg_test (eg_call (ag_cons (eg_ixT (d := .int a) (by walk_at "ev") (by walk_at "ev") rfl) ag_nil) ⟨_, rfl, rfl⟩)))
      (tg_notT (tg_test (eg_call (ag_cons (eg_ixT (d := .int b) (by walk_at "ev") (by walk_at "ev") rfl) ag_nil) ⟨_, rfl, rfl⟩)))))) (fun h => absurd h Bool.false_ne_true) fun _ => sg_next ?_)
    refine sg_ret (eg_is (e := .bl true) (eg_chain3 (y := .int a) (z := .int b) (by walk_at "ev") (eg_ixT (by walk_at "ev") (by walk_at "ev") rfl) (eg_ixT (by walk_at "ev") (by walk_at "ev") rfl) eg_int og_lt og_lt og_le) (by rw [decide_eq_true h1, decide_eq_true h2, decide_eq_true h3]; rfl)) ?_
    exact rfl
  · refine sg_ctx [some (.lst (chD a b))] rfl ?_
    refine sg_seq (sg_if (tg_orF (tg_notT (tg_test (eg_call (by walk_at "av") ⟨_, .inr rfl, rfl⟩))) (tg_orF (tg_is (b := !decide (V.int ((chD a b).length : Int) = V.int 2)) (tg_test (eg_neS (eg_bi (by walk_at "av") cg_lenL) (by walk_at "ev") rfl rfl rfl)) rfl) (tg_orF (tg_notT (tg_test (eg_call (ag_cons (eg_ixL (d := .int a) (by walk_at "ev") (by walk_at "ev") rfl) ag_nil) ⟨_, rfl, rfl⟩)))
      (tg_notT (tg_test (eg_call (ag_cons (eg_ixL (d := .int b) (by walk_at "ev") (by walk_at "ev") rfl) ag_nil) ⟨_, rfl, rfl⟩)))))) (fun h => absurd h Bool.false_ne_true) fun _ => sg_next ?_)
    refine sg_ret (eg_is (e := .bl true) (eg_chain3 (y := .int a) (z := .int b) (by walk_at "ev") (eg_ixL (by walk_at "ev") (by walk_at "ev") rfl) (eg_ixL (by walk_at "ev") (by walk_at "ev") rfl) eg_int og_lt og_lt og_le) (by rw [decide_eq_true h1, decide_eq_true h2, decide_eq_true h3]; rfl)) ?_
    exact rfl
def S_look_chance (ds : List D) (e : D) : Prop := ∃ (l : Bool) (a b : Int), ds = [row l (chD a b)] ∧ 0 < a ∧ a < b ∧ b ≤ 1000 ∧ e = .non
theorem ok_look_chance (T : Txt B.K mg) : FnOk B.P B.w B.K mg base CX0 3 T.look_chance.f T.look_chance.d p_look_chance (PSp B.P B.w B.K S_look_chance) := by
  have G_is_chance := ok_is_chance (base := base) T
  refine fn_pure T.look_chance.F sc_look_chance (fun ds e h => by obtain ⟨a, b, c, rfl, _⟩ := h; rfl) fun pp cdv A outer s H E ds e hr hS => ⟨_, (pss_one (ps_if (pt_not (pt_val (pe_call G_is_chance (hr.mono (by decide)) (by rfl) T.is_chance.g T.is_chance.F.kp T.is_chance.b .nil pass0 (pa_cons (pv 0) pa_nil)))) pss_never pss_nil)), ?_⟩
  obtain ⟨l, a, b, rfl, h1, h2, h3, rfl⟩ := hS
  refine sg_ctx [some (row l (chD a b))] rfl ?_
  exact sg_if (tg_notT (tg_test (eg_call (by walk_at "av") ⟨_, _, _, rfl, h1, h2, h3, rfl⟩))) (fun h => absurd h Bool.false_ne_true) fun _ => sg_next rfl
def S_limit (ds : List D) (e : D) : Prop := ∃ (l c : Bool) (m top : Int), ds = [row l (rl c m), .int top] ∧ e = .int (lim c m top)
theorem ok_limit (T : Txt B.K mg) : FnOk B.P B.w B.K mg base CX0 1 T.limit.f T.limit.d p_limit (PSp B.P B.w B.K S_limit) := by
  refine fn_pure T.limit.F sc_limit (fun ds e h => by obtain ⟨a, b, c, d, rfl, _⟩ := h; rfl) fun pp cdv A outer s H E ds e hr hS => ⟨_, (pss_cons (ps_if (pt_cmpR (k_eq (K := B.K) rfl hr.units) (pe_ix (k_ix (K := B.K) rfl) (pv 0) pe_int (fun _ _ => rfl)) pe_str (nomark _)) (pss_one (ps_ret pe_non)) pss_nil) (pss_cons (ps_if (pt_cmpR (k_eq (K := B.K) rfl hr.units) (pe_ix (k_ix (K := B.K) rfl) (pv 0) pe_int (fun _ _ => rfl)) pe_str (nomark _)) (pss_one (ps_ret (pe_ix (k_ix (K := B.K) rfl) (pv 0) pe_int (fun _ _ => rfl)))) pss_nil) (pss_one (ps_ret (pe_ifExp (pt_cmpR (k_eq (K := B.K) rfl hr.units) (pe_callB (k_len (K := B.K) rfl) (by rfl) T.m_len (by decide +kernel) (pa_cons (pv 0) pa_nil)) pe_int (nomark _)) (pe_op (k_add (K := B.K) rfl) (pv 1) pe_int) (pe_callB (call_min2 rfl) (by rfl) T.m_min (by decide +kernel) (pa_cons (pe_op (k_add (K := B.K) rfl) (pv 1) pe_int) (pa_cons (pe_ix (k_ix (K := B.K) rfl) (pv 0) pe_int (fun _ _ => rfl)) pa_nil)))))))), ?_⟩
  obtain ⟨l, c, m, top, rfl, rfl⟩ := hS
  have hc : ¬ rW c = "free" := by cases c <;> decide +kernel
  have hc2 : decide (rW c = "cap") = c := by cases c <;> decide +kernel
  cases l
  · refine sg_ctx [some (.tup (rl c m)), some (.int top)] rfl ?_
    refine sg_seq (sg_if (tg_is (tg_test (eg_eqStr (eg_ixT (d := .str (rW c)) (by walk_at "ev") (by walk_at "ev") rfl) (by walk_at "ev"))) (decide_eq_false hc)) (fun h => absurd h Bool.false_ne_true) fun _ => sg_next ?_)
    refine sg_seq (sg_if (tg_is (tg_test (eg_eqStr (eg_ixT (d := .str (rW c)) (by walk_at "ev") (by walk_at "ev") rfl) (by walk_at "ev"))) hc2) (fun h => ?_) fun h => sg_next ?_)
    · subst h
      refine sg_ret (d := .int m) (eg_ixT (by walk_at "ev") (by walk_at "ev") rfl) ?_
      exact rfl
    · subst h
      refine sg_ret (eg_if (b := false) (tg_is (b := decide (((rl false m).length : Int) = 1)) (tg_test (eg_eqI (eg_bi (by walk_at "av") cg_lenT) (by walk_at "ev"))) rfl) (fun h => absurd h Bool.false_ne_true) fun _ => eg_bi (ag_cons (by walk_at "ev") (ag_cons (eg_ixT (d := .int m) (by walk_at "ev") (by walk_at "ev") rfl) ag_nil)) cg_min2) ?_
      exact rfl
  · refine sg_ctx [some (.lst (rl c m)), some (.int top)] rfl ?_
    refine sg_seq (sg_if (tg_is (tg_test (eg_eqStr (eg_ixL (d := .str (rW c)) (by walk_at "ev") (by walk_at "ev") rfl) (by walk_at "ev"))) (decide_eq_false hc)) (fun h => absurd h Bool.false_ne_true) fun _ => sg_next ?_)
    refine sg_seq (sg_if (tg_is (tg_test (eg_eqStr (eg_ixL (d := .str (rW c)) (by walk_at "ev") (by walk_at "ev") rfl) (by walk_at "ev"))) hc2) (fun h => ?_) fun h => sg_next ?_)
    · subst h
      refine sg_ret (d := .int m) (eg_ixL (by walk_at "ev") (by walk_at "ev") rfl) ?_
      exact rfl
    · subst h
      refine sg_ret (eg_if (b := false) (tg_is (b := decide (((rl false m).length : Int) = 1)) (tg_test (eg_eqI (eg_bi (by walk_at "av") cg_lenL) (by walk_at "ev"))) rfl) (fun h => absurd h Bool.false_ne_true) fun _ => eg_bi (ag_cons (by walk_at "ev") (ag_cons (eg_ixL (d := .int m) (by walk_at "ev") (by walk_at "ev") rfl) ag_nil)) cg_min2) ?_
      exact rfl
end
end Tl
end
section
set_option Elab.async false
set_option linter.all false
set_option maxRecDepth 100000
set_option maxHeartbeats 2000000
set_option autoImplicit false
set_option exponentiation.threshold 10000

/-! Manners; places; towers put in and out; shares. -/
namespace Tl
open PySem PySem.Spec PyProof.Rows L2
local macro_rules | `(tactic| walk_at "ev") => `(tactic| first
  | ((with_reducible refine' eg_var ?k1); (case k1 => exact rfl))
  | with_reducible exact eg_int
  | with_reducible exact eg_str
  | with_reducible exact eg_bl
  | with_reducible exact eg_non
  | ((with_reducible refine' eg_sub ?k1 ?k2); (case k1 => walk_at "ev"); (case k2 => walk_at "ev"))
  | ((with_reducible refine' eg_add ?k1 ?k2); (case k1 => walk_at "ev"); (case k2 => walk_at "ev"))
  | ((with_reducible refine' eg_lt ?k1 ?k2); (case k1 => walk_at "ev"); (case k2 => walk_at "ev"))
  | ((with_reducible refine' eg_le ?k1 ?k2); (case k1 => walk_at "ev"); (case k2 => walk_at "ev"))
  | ((with_reducible refine' eg_gt ?k1 ?k2); (case k1 => walk_at "ev"); (case k2 => walk_at "ev"))
  | ((with_reducible refine' eg_ge ?k1 ?k2); (case k1 => walk_at "ev"); (case k2 => walk_at "ev"))
  | ((with_reducible refine' eg_neg ?k1); (case k1 => walk_at "ev"))
  | ((with_reducible refine' eg_ixT ?k1 ?k2 ?k3); (case k1 => walk_at "ev"); (case k2 => walk_at "ev"); (case k3 => exact rfl))
  | ((with_reducible refine' eg_ixL ?k1 ?k2 ?k3); (case k1 => walk_at "ev"); (case k2 => walk_at "ev"); (case k3 => exact rfl))
  | ((with_reducible refine' eg_tup ?k1 ?k2); (case k1 => walk_at "av"); (case k2 => exact le1000 rfl))
  | ((with_reducible refine' eg_lst ?k1 ?k2); (case k1 => walk_at "av"); (case k2 => exact le1000 rfl))
  | ((with_reducible refine' eg_isN ?k1 ?k2); (case k1 => walk_at "ev"); (case k2 => exact rfl))
  | ((with_reducible refine' eg_notN ?k1 ?k2); (case k1 => walk_at "ev"); (case k2 => exact rfl))
  | ((with_reducible refine' eg_eqI ?k1 ?k2); (case k1 => walk_at "ev"); (case k2 => walk_at "ev"))
  | ((with_reducible refine' eg_eqStr ?k1 ?k2); (case k1 => walk_at "ev"); (case k2 => walk_at "ev"))
  | assumption)
local macro_rules | `(tactic| walk_at "av") => `(tactic| first
  | with_reducible exact ag_nil
  | ((with_reducible refine' ag_cons ?k1 ?k2); (case k1 => walk_at "ev"); (case k2 => walk_at "av")))
local macro_rules | `(tactic| walk_at "tv") => `(tactic| first
  | ((with_reducible refine' tg_test ?k1); (case k1 => walk_at "ev"))
  | ((with_reducible refine' tg_B ?k1); (case k1 => walk_at "ev"))
  | ((with_reducible refine' tg_not ?k1); (case k1 => walk_at "tv")))
local macro_rules | `(tactic| walk_at "nm") => `(tactic| first | dsimp only [cxOf] | skip)

section
variable {B : Bs} {mg : Str → Option Value} {base : Heap}
abbrev mans : List V := [.str "plain", .str "lean", .str "early", .str "sharp"]
def early (m : Str) : Bool := inV (.str m) [.str "early", .str "sharp"]
def lean (m : Str) : Bool := inV (.str m) [.str "lean", .str "sharp"]
def ManOk (m : Str) : Prop := inV (.str m) mans = true
def S_look_manner (ds : List D) (e : D) : Prop := ∃ m : Str, ds = [.str m] ∧ ManOk m ∧ e = .non
theorem ok_look_manner (T : Txt B.K mg) : FnOk B.P B.w B.K mg base CX0 1 T.look_manner.f T.look_manner.d p_look_manner (PSp B.P B.w B.K S_look_manner) := by
  refine fn_pure T.look_manner.F sc_look_manner (fun ds e h => by obtain ⟨a, rfl, _⟩ := h; rfl) fun pp cdv A outer s H E ds e hr hS => ⟨_, (pss_one (ps_if (PW.pt (pw_or (pt_not (pt_val (pe_callB (k_isi (K := B.K) rfl) (by rfl) T.m_isinstance (by decide +kernel) (pa_cons (pv 0) (pa_cons (pe_bltn (v := .ty "str") (by rfl) T.m_str (by decide +kernel) rfl) pa_nil))))) (pw_or1 (pt_cmpR (k_ni (K := B.K) rfl (hu_of hr)) (pv 0) (pe_glob (v := .ref T.c_MANNERS.a) (by rfl) T.c_MANNERS.g rfl) (by rfl))))) pss_never pss_nil)), ?_⟩
  obtain ⟨m, rfl, hm, rfl⟩ := hS
  refine sg_ctx [some (.str m)] rfl ?_
  refine sg_if (tg_orF (tg_notT (tg_test (eg_bi (ag_cons (by walk_at "ev") (ag_cons eg_raw ag_nil)) (cg_isi (n := "str") rfl (by decide +kernel))))) (tg_is (b := !inV (.str m) mans) (tg_test (eg_niT (xs := mans) (by walk_at "ev") (eg_kt (ds := [.str "plain", .str "lean", .str "early", .str "sharp"]) T.c_MANNERS.t fun H => .cons (.str _) (.cons (.str _) (.cons (.str _) (.cons (.str _) .nil)))) rfl rfl)) ?_)) (fun h => absurd h Bool.false_ne_true) fun _ => sg_next rfl
  rw [hm]
  rfl
def S_is_early (ds : List D) (e : D) : Prop := ∃ m : Str, ds = [.str m] ∧ e = .bl (early m)
theorem ok_is_early (T : Txt B.K mg) : FnOk B.P B.w B.K mg base CX0 1 T.is_early.f T.is_early.d p_is_early (PSp B.P B.w B.K S_is_early) := by
  refine fn_pure T.is_early.F sc_is_early (fun ds e h => by obtain ⟨a, rfl, _⟩ := h; rfl) fun pp cdv A outer s H E ds e hr hS => ⟨_, (pss_one (ps_ret (pe_cmpR (k_in (K := B.K) rfl (hu_of hr)) (pv 0) (pe_tupF (pa_cons pe_str (pa_cons pe_str pa_nil))) (by rfl)))), ?_⟩
  obtain ⟨m, rfl, rfl⟩ := hS
  refine sg_ctx [some (.str m)] rfl ?_
  refine sg_ret (eg_inT (by walk_at "ev") (by walk_at "ev") rfl rfl) ?_
  exact rfl
def S_is_lean (ds : List D) (e : D) : Prop := ∃ m : Str, ds = [.str m] ∧ e = .bl (lean m)
theorem ok_is_lean (T : Txt B.K mg) : FnOk B.P B.w B.K mg base CX0 1 T.is_lean.f T.is_lean.d p_is_lean (PSp B.P B.w B.K S_is_lean) := by
  refine fn_pure T.is_lean.F sc_is_lean (fun ds e h => by obtain ⟨a, rfl, _⟩ := h; rfl) fun pp cdv A outer s H E ds e hr hS => ⟨_, (pss_one (ps_ret (pe_cmpR (k_in (K := B.K) rfl (hu_of hr)) (pv 0) (pe_tupF (pa_cons pe_str (pa_cons pe_str pa_nil))) (by rfl)))), ?_⟩
  obtain ⟨m, rfl, rfl⟩ := hS
  refine sg_ctx [some (.str m)] rfl ?_
  refine sg_ret (eg_inT (by walk_at "ev") (by walk_at "ev") rfl rfl) ?_
  exact rfl
def oD : Option Nat → D
  | none => .non
  | some i => .int (i : Int)
def S_next_place (ds : List D) (e : D) : Prop := ∃ (T : Tw) (b : Nat) (l : Int), ds = [tw T, .int ((b : Int) - 1), .int l] ∧ T.length ≤ 1000 ∧ b ≤ T.length ∧ e = oD (nxt T b l)
theorem ok_next_place (T : Txt B.K mg) : FnOk B.P B.w B.K mg base CX0 1 T.next_place.f T.next_place.d p_next_place (PSp B.P B.w B.K S_next_place) := by
  refine fn_pure T.next_place.F sc_next_place (fun ds e h => by obtain ⟨a, b, c, rfl, _⟩ := h; rfl) fun pp cdv A outer s H E ds e hr hS => ⟨_, (pss_cons (ps_for PassesOwn.never rfl (pi_range2 (by rfl) T.m_range (pa_cons (pe_op (k_add (K := B.K) rfl) (pv 1) pe_int) (pa_cons (pe_callB (k_len (K := B.K) rfl) (by rfl) T.m_len (by decide +kernel) (pa_cons (pv 0) pa_nil)) pa_nil))) (pg_name (i := 3) sc_next_place.nd rfl (Or.inl rfl)) (pss_one (ps_if (pt_cmpR op_ge (pe_ix (k_ix (K := B.K) rfl) (pe_ix (k_ix (K := B.K) rfl) (pv 0) (pv 3) (fun _ _ => rfl)) pe_int (fun _ _ => rfl)) (pv 2) (nomark _)) (pss_one (ps_ret (pv 3))) pss_nil))) (pss_one (ps_ret pe_non))), ?_⟩
  obtain ⟨Tv, b, l, rfl, hT, hb, rfl⟩ := hS
  refine sg_ctx [some (tw Tv), some (.int ((b : Int) - 1)), some (.int l), none] rfl ?_
  refine sg_seq (sg_for (wg_range2 (m := (b : Int) - 1 + 1) (n := ((Tv.map pr).length : Int)) (ag_cons (by walk_at "ev") (ag_cons (eg_bi (by walk_at "av") cg_lenT) ag_nil)) (by omega) (by omega) (by omega) (by rw [List.length_map]; omega)) (fun i Γ => ∃ x : Option D, Γ = [some (tw Tv), some (.int ((b : Int) - 1)), some (.int l), x] ∧ nxt Tv b l = nxt Tv (b + i) l) ⟨none, rfl, rfl⟩ ?_ ?_)
  · rintro i d Γ hd ⟨x, rfl, hn⟩
    have hi : i < (((Tv.map pr).length : Int) - ((b : Int) - 1 + 1)).toNat := by
      have := (List.getElem?_eq_some_iff.mp hd).1
      rw [rng_length] at this
      exact this
    rw [List.length_map] at hi
    have e := rng_get hd
    have e2 : (b : Int) - 1 + 1 + i = ((b + i : Nat) : Int) := by omega
    rw [e2] at e
    subst e
    obtain ⟨p, hp⟩ : ∃ p, Tv[b + i]? = some p := ⟨_, List.getElem?_eq_getElem (by omega)⟩
    refine ⟨_, _, gg_name, ?_⟩
    refine sg_if (tg_test (eg_ge (i := p.2) (eg_ixT (ds := [.int p.1, .int p.2]) (eg_ixT (i := ((b + i : Nat) : Int)) (by walk_at "ev") (by walk_at "ev") (at_nat (by rw [List.getElem?_map, hp]; rfl))) (by walk_at "ev") rfl) (by walk_at "ev"))) (fun h => ?_) fun h => sg_next ?_
    · refine sg_ret (by walk_at "ev") ?_
      show D.int _ = oD (nxt Tv b l)
      rw [hn, nxt_step hp, if_pos (of_decide_eq_true h)]
      rfl
    · refine ⟨_, rfl, ?_⟩
      rw [hn, nxt_step hp, if_neg (of_decide_eq_false h)]
      rfl
  · rintro Γ ⟨x, rfl, hn⟩
    refine sg_ret (by walk_at "ev") ?_
    show D.non = oD (nxt Tv b l)
    rw [hn, nxt_end (by rw [rng_length, List.length_map]; omega)]
    rfl
def S_put_in (ds : List D) (e : D) : Prop := ∃ (T : Tw) (k h : Int), ds = [tw T, .int k, .int h] ∧ TwOk T ∧ k ∉ T.map (·.1) ∧ e = tw (ins T k h)
theorem ok_put_in (T : Txt B.K mg) : FnOk B.P B.w B.K mg base CX0 1 T.put_in.f T.put_in.d p_put_in (PSp B.P B.w B.K S_put_in) := by
  refine fn_pure T.put_in.F sc_put_in (fun ds e h => by obtain ⟨a, b, c, rfl, _⟩ := h; rfl) fun pp cdv A outer s H E ds e hr hS => ⟨_, (pss_one (ps_ret (pe_callTy (call_tupF (K := B.K) rfl) (by rfl) T.m_tuple (by decide +kernel) (pa_cons (pe_callB (k_sorted (K := B.K) rfl) (by rfl) T.m_sorted (by decide +kernel) (pa_cons (pe_op (k_add (K := B.K) rfl) (pv 0) (pe_tupF (pa_cons (pe_tupF (pa_cons (pv 1) (pa_cons (pv 2) pa_nil))) pa_nil))) pa_nil)) pa_nil)))), ?_⟩
  obtain ⟨Tv, k, h, rfl, hT, hk, rfl⟩ := hS
  refine sg_ctx [some (tw Tv), some (.int k), some (.int h)] rfl ?_
  refine sg_ret (eg_bi (ag_cons (eg_bi (ag_cons (eg_is (e := tw (Tv ++ [(k, h)])) (eg_catT (ds := Tv.map pr) (es := [pr (k, h)]) (by walk_at "ev") (eg_tup (ag_cons (by walk_at "ev") ag_nil) (le1000 rfl)) ?_) ?_) ag_nil) (cg_sortT (T := ins Tv k h) (ins_perm k h Tv).symm (ins_srt hT.1 hk))) ag_nil) cg_tupleL) ?_
  · have := hT.2.2
    rw [List.length_map, sizeLine_eq]
    show Tv.length + 1 ≤ _
    omega
  · show D.tup _ = D.tup _
    rw [List.map_append]
    rfl
  · exact rfl
def S_put_out (ds : List D) (e : D) : Prop := ∃ (T : Tw) (k : Int), ds = [tw T, .int k] ∧ T.length ≤ 1000 ∧ e = tw (del T k)
theorem ne_dec (a b : Int) : (!decide (V.int a = V.int b)) = decide (a ≠ b) := by
  by_cases h : a = b
  · subst h; simp
  · have : ¬ V.int a = V.int b := fun z => h (V.int.inj z)
    simp [h, this]
theorem ok_put_out (T : Txt B.K mg) : FnOk B.P B.w B.K mg base CX0 1 T.put_out.f T.put_out.d p_put_out (PSp B.P B.w B.K S_put_out) := by
  refine fn_pure T.put_out.F sc_put_out (fun ds e h => by obtain ⟨a, b, rfl, _⟩ := h; rfl) fun pp cdv A outer s H E ds e hr hS => ⟨_, (pss_one (ps_ret (pe_callTy (call_tupF (K := B.K) rfl) (by rfl) T.m_tuple (by decide +kernel) (pa_cons (pe_lc (own := [("pair", 2)]) rfl sc_put_out.nd (k_tup (K := B.K) rfl (pv 0)) (blkOk_by (own := [("pair", 2)]) (N := n_put_out) (sc := defScope s_put_out) (by decide +kernel)) (fun _ _ _ _ _ => (pg_name (i := 2) sc_put_out.nd rfl (Or.inl rfl))) (fun _ _ _ _ _ => (pts_one (pt_cmpR (k_ne (K := B.K) rfl hr.units) (pe_ix (k_ix (K := B.K) rfl) (pv 2) pe_int (fun _ _ => rfl)) (pv 1) (nomark _)))) (fun _ _ _ _ _ => (pv 2))) pa_nil)))), ?_⟩
  obtain ⟨Tv, k, rfl, hT, rfl⟩ := hS
  refine sg_ctx [some (tw Tv), some (.int k), none] rfl ?_
  refine sg_ret (eg_bi (ag_cons (eg_lc (xs := Tv) (ee := pr) (js := [2]) (fun p => decide (p.1 ≠ k)) pr (wg_tup (by walk_at "ev")) (by decide) (by omega) fun p hp => ⟨_, gg_name, tg_is (tg_test (eg_neS (x := .int p.1) (y := .int k) (eg_ixT (d := .int p.1) (by walk_at "ev") (by walk_at "ev") rfl) (by walk_at "ev") rfl rfl rfl)) (ne_dec _ _), fun _ => ⟨by walk_at "ev", rfl⟩⟩) ag_nil) cg_tupleL) ?_
  exact rfl
/-- a chance, and its parts -/
def ChOk (a b : Int) : Prop := 0 < a ∧ a < b ∧ b ≤ 1000
theorem ch_num {a b : Int} (h : ChOk a b) : 0 ≤ (Rat.divInt a b).num ∧ (Rat.divInt a b).num ≤ 1000 ∧ (Rat.divInt a b).den ≤ 1000 := by
  obtain ⟨h1, h2, h3⟩ := h
  have hb : 0 < b := by omega
  rw [Rat.num_divInt, Rat.den_divInt, if_neg (by omega), Int.sign_eq_one_of_pos hb, Int.one_mul]
  have h4 : a / (Int.gcd b a : Int) ≤ a := Int.ediv_le_self _ (by omega)
  have h6 : 0 ≤ a / (Int.gcd b a : Int) := Int.ediv_nonneg (by omega) (by omega)
  exact ⟨h6, by omega, Nat.le_trans (Nat.div_le_self _ _) (by omega)⟩
theorem sm_small {q : Rat} (h1 : q.num.natAbs < 2 ^ 100) (h2 : q.den < 2 ^ 100) : sm q := ⟨Nat.lt_trans h1 (Nat.pow_lt_pow_right (by decide) (by decide)), Nat.lt_trans h2 (Nat.pow_lt_pow_right (by decide) (by decide))⟩
theorem sm_pow {q : Rat} (h1 : q.num.natAbs ≤ 1000) (h2 : q.den ≤ 1000) {n : Nat} (hn : n ≤ 2) : (q ^ n).num.natAbs < 2 ^ 100 ∧ (q ^ n).den < 2 ^ 100 := by
  have e1 : (q ^ n).num.natAbs ≤ 1000 ^ 2 := by
    rw [Rat.num_pow, Int.natAbs_pow]
    exact Nat.le_trans (Nat.pow_le_pow_left h1 n) (Nat.pow_le_pow_right (by decide) hn)
  have e2 : (q ^ n).den ≤ 1000 ^ 2 := by
    rw [Rat.den_pow]
    exact Nat.le_trans (Nat.pow_le_pow_left h2 n) (Nat.pow_le_pow_right (by decide) hn)
  exact ⟨Nat.lt_of_le_of_lt e1 (by decide), Nat.lt_of_le_of_lt e2 (by decide)⟩
theorem div_small (a b : Int) (hb : 0 < b) : (Rat.divInt a b).num.natAbs ≤ a.natAbs ∧ (Rat.divInt a b).den ≤ b.natAbs := by
  rw [Rat.num_divInt, Rat.den_divInt, if_neg (by omega), Int.sign_eq_one_of_pos hb, Int.one_mul]
  refine ⟨?_, Nat.div_le_self _ _⟩
  rw [Int.natAbs_ediv_of_dvd (Int.gcd_dvd_right _ _)]
  exact Nat.div_le_self _ _
theorem one_sub (q : Rat) : (1 - q).num.natAbs ≤ q.den + q.num.natAbs ∧ (1 - q).den ≤ q.den := by
  have e := q_add 1 (-q)
  rw [Rat.neg_num, Rat.neg_den, ← Rat.sub_eq_add_neg] at e
  have h := div_small ((1 : Rat).num * (q.den : Int) + -q.num * ((1 : Rat).den : Int)) (((1 : Rat).den : Int) * (q.den : Int)) (by have := q.den_pos; show 0 < (1 : Int) * _; omega)
  rw [e] at h
  obtain ⟨h1, h2⟩ := h
  have e1 : (1 : Rat).num = 1 := rfl
  have e2 : (1 : Rat).den = 1 := rfl
  rw [e1, e2] at h1
  rw [e2] at h2
  exact ⟨by omega, by omega⟩
def S_share_of (ds : List D) (e : D) : Prop := ∃ (l : Bool) (a b : Int) (h n : Nat), ds = [row l (chD a b), .int h, .int n] ∧ ChOk a b ∧ 1 ≤ h ∧ h ≤ n ∧ n ≤ 3 ∧ e = fr (shr (Rat.divInt a b) h n)
theorem fr_one : fr 1 = .tup [.int 1, .int 1] := rfl
theorem sm_one : sm 1 := ⟨by decide, by decide⟩
theorem ok_share_of (T : Txt B.K mg) : FnOk B.P B.w B.K mg base CX0 5 T.share_of.f T.share_of.d p_share_of (PSp B.P B.w B.K S_share_of) := by
  have G_ratio := ok_ratio (base := base) T
  have G_power := ok_power (base := base) T
  have G_times := ok_times (base := base) T
  have G_minus := ok_minus (base := base) T
  refine fn_pure T.share_of.F sc_share_of (fun ds e h => by obtain ⟨a, b, c, d, e, rfl, _⟩ := h; rfl) fun pp cdv A outer s H E ds e hr hS => ⟨_, (pss_cons (ps_set (i := 3) sc_share_of.nd rfl (Or.inl rfl) (pe_call G_ratio (hr.mono (by decide)) (by rfl) T.ratio.g T.ratio.F.kp T.ratio.b .nil pass0 (pa_cons (pe_ix (k_ix (K := B.K) rfl) (pv 0) pe_int (fun _ _ => rfl)) (pa_cons (pe_ix (k_ix (K := B.K) rfl) (pv 0) pe_int (fun _ _ => rfl)) pa_nil)))) (pss_cons (ps_if (pt_cmpR (k_eq (K := B.K) rfl hr.units) (pv 1) (pv 2) (nomark _)) (pss_one (ps_ret (pe_call G_power (hr.mono (by decide)) (by rfl) T.power.g T.power.F.kp T.power.b .nil pass0 (pa_cons (pv 3) (pa_cons (pe_op op_sub (pv 1) pe_int) pa_nil))))) pss_nil) (pss_one (ps_ret (pe_call G_times (hr.mono (by decide)) (by rfl) T.times.g T.times.F.kp T.times.b .nil pass0 (pa_cons (pe_call G_power (hr.mono (by decide)) (by rfl) T.power.g T.power.F.kp T.power.b .nil pass0 (pa_cons (pv 3) (pa_cons (pe_op op_sub (pv 1) pe_int) pa_nil))) (pa_cons (pe_call G_minus (hr.mono (by decide)) (by rfl) T.minus.g T.minus.F.kp T.minus.b .nil pass0 (pa_cons (pe_tupF (pa_cons pe_int (pa_cons pe_int pa_nil))) (pa_cons (pv 3) pa_nil))) pa_nil))))))), ?_⟩
  obtain ⟨l, a, b, h, n, rfl, hc, h1, h2, h3, rfl⟩ := hS
  have hq := ch_num hc
  generalize hp : Rat.divInt a b = p at hq
  have hpn : p.num.natAbs ≤ 1000 := by omega
  have hpw := sm_pow hpn hq.2.2 (n := h - 1) (by omega)
  have hpz : p.num.natAbs < 2 ^ 100 := Nat.lt_of_le_of_lt hpn (by decide)
  have hpd : p.den < 2 ^ 100 := Nat.lt_of_le_of_lt hq.2.2 (by decide)
  have hb0 : 0 < b ∧ b.natAbs < 2 ^ 8900 := ⟨by have := hc.1; have := hc.2.1; omega, Nat.lt_of_le_of_lt (m := 1000) (by have := hc.2.2; have := hc.1; have := hc.2.1; omega) (by decide)⟩
  have he : (h : Int) - 1 = ((h - 1 : Nat) : Int) := by omega
  have sm1 : sm (1 - p) := by
    obtain ⟨e1, e2⟩ := one_sub p
    exact sm_small (Nat.lt_of_le_of_lt (m := 2000) (by omega) (by decide)) (Nat.lt_of_le_of_lt e2 hpd)
  cases l
  · refine sg_ctx [some (.tup (chD a b)), some (.int h), some (.int n), none] rfl ?_
    refine sg_seq (sg_asg (eg_call (ag_cons (eg_ixT (d := .int a) (by walk_at "ev") (by walk_at "ev") rfl) (ag_cons (eg_ixT (d := .int b) (by walk_at "ev") (by walk_at "ev") rfl) ag_nil)) ⟨a, b, rfl, hb0.1, hb0.2, rfl⟩) ?_)
    rw [hp]
    refine sg_seq (sg_if (by walk_at "tv") (fun hh => ?_) fun hh => sg_next ?_)
    · refine sg_ret (eg_call (ag_cons (by walk_at "ev") (ag_cons (by walk_at "ev") ag_nil)) ⟨p, h - 1, by rw [he], hpz, hpd, by omega, rfl⟩) ?_
      show fr _ = fr _
      have e : h = n := by have := of_decide_eq_true hh; omega
      rw [shr, if_pos e]
    · refine sg_ret (eg_call (ag_cons (eg_call (ag_cons (by walk_at "ev") (ag_cons (by walk_at "ev") ag_nil)) ⟨p, h - 1, by rw [he], hpz, hpd, by omega, rfl⟩) (ag_cons (eg_call (ag_cons (eg_is (eg_tup (ag_cons eg_int (ag_cons eg_int ag_nil)) (le1000 rfl)) fr_one.symm) (ag_cons (by walk_at "ev") ag_nil)) ⟨1, p, rfl, sm_one, sm_small hpz hpd, rfl⟩) ag_nil)) ⟨_, _, rfl, sm_small hpw.1 hpw.2, sm1, rfl⟩) ?_
      show fr _ = fr _
      have e : ¬ h = n := by have := of_decide_eq_false hh; omega
      rw [shr, if_neg e]
  · refine sg_ctx [some (.lst (chD a b)), some (.int h), some (.int n), none] rfl ?_
    refine sg_seq (sg_asg (eg_call (ag_cons (eg_ixL (d := .int a) (by walk_at "ev") (by walk_at "ev") rfl) (ag_cons (eg_ixL (d := .int b) (by walk_at "ev") (by walk_at "ev") rfl) ag_nil)) ⟨a, b, rfl, hb0.1, hb0.2, rfl⟩) ?_)
    rw [hp]
    refine sg_seq (sg_if (by walk_at "tv") (fun hh => ?_) fun hh => sg_next ?_)
    · refine sg_ret (eg_call (ag_cons (by walk_at "ev") (ag_cons (by walk_at "ev") ag_nil)) ⟨p, h - 1, by rw [he], hpz, hpd, by omega, rfl⟩) ?_
      show fr _ = fr _
      have e : h = n := by have := of_decide_eq_true hh; omega
      rw [shr, if_pos e]
    · refine sg_ret (eg_call (ag_cons (eg_call (ag_cons (by walk_at "ev") (ag_cons (by walk_at "ev") ag_nil)) ⟨p, h - 1, by rw [he], hpz, hpd, by omega, rfl⟩) (ag_cons (eg_call (ag_cons (eg_is (eg_tup (ag_cons eg_int (ag_cons eg_int ag_nil)) (le1000 rfl)) fr_one.symm) (ag_cons (by walk_at "ev") ag_nil)) ⟨1, p, rfl, sm_one, sm_small hpz hpd, rfl⟩) ag_nil)) ⟨_, _, rfl, sm_small hpw.1 hpw.2, sm1, rfl⟩) ?_
      show fr _ = fr _
      have e : ¬ h = n := by have := of_decide_eq_false hh; omega
      rw [shr, if_neg e]
end
end Tl
end
section
set_option Elab.async false
set_option linter.all false
set_option maxRecDepth 100000
set_option maxHeartbeats 2000000
set_option autoImplicit false
set_option exponentiation.threshold 10000

/-! What a deed leaves: fresh, after; the law's end, gone. -/
namespace Tl
open PySem PySem.Spec PyProof.Rows L2
local macro_rules | `(tactic| walk_at "ev") => `(tactic| first
  | ((with_reducible refine' eg_var ?k1); (case k1 => exact rfl))
  | with_reducible exact eg_int
  | with_reducible exact eg_str
  | with_reducible exact eg_bl
  | with_reducible exact eg_non
  | ((with_reducible refine' eg_sub ?k1 ?k2); (case k1 => walk_at "ev"); (case k2 => walk_at "ev"))
  | ((with_reducible refine' eg_add ?k1 ?k2); (case k1 => walk_at "ev"); (case k2 => walk_at "ev"))
  | ((with_reducible refine' eg_lt ?k1 ?k2); (case k1 => walk_at "ev"); (case k2 => walk_at "ev"))
  | ((with_reducible refine' eg_le ?k1 ?k2); (case k1 => walk_at "ev"); (case k2 => walk_at "ev"))
  | ((with_reducible refine' eg_gt ?k1 ?k2); (case k1 => walk_at "ev"); (case k2 => walk_at "ev"))
  | ((with_reducible refine' eg_ge ?k1 ?k2); (case k1 => walk_at "ev"); (case k2 => walk_at "ev"))
  | ((with_reducible refine' eg_neg ?k1); (case k1 => walk_at "ev"))
  | ((with_reducible refine' eg_ixT ?k1 ?k2 ?k3); (case k1 => walk_at "ev"); (case k2 => walk_at "ev"); (case k3 => exact rfl))
  | ((with_reducible refine' eg_ixL ?k1 ?k2 ?k3); (case k1 => walk_at "ev"); (case k2 => walk_at "ev"); (case k3 => exact rfl))
  | ((with_reducible refine' eg_tup ?k1 ?k2); (case k1 => walk_at "av"); (case k2 => exact le1000 rfl))
  | ((with_reducible refine' eg_lst ?k1 ?k2); (case k1 => walk_at "av"); (case k2 => exact le1000 rfl))
  | ((with_reducible refine' eg_isN ?k1 ?k2); (case k1 => walk_at "ev"); (case k2 => exact rfl))
  | ((with_reducible refine' eg_notN ?k1 ?k2); (case k1 => walk_at "ev"); (case k2 => exact rfl))
  | ((with_reducible refine' eg_eqI ?k1 ?k2); (case k1 => walk_at "ev"); (case k2 => walk_at "ev"))
  | ((with_reducible refine' eg_eqStr ?k1 ?k2); (case k1 => walk_at "ev"); (case k2 => walk_at "ev"))
  | assumption)
local macro_rules | `(tactic| walk_at "av") => `(tactic| first
  | with_reducible exact ag_nil
  | ((with_reducible refine' ag_cons ?k1 ?k2); (case k1 => walk_at "ev"); (case k2 => walk_at "av")))
local macro_rules | `(tactic| walk_at "tv") => `(tactic| first
  | ((with_reducible refine' tg_test ?k1); (case k1 => walk_at "ev"))
  | ((with_reducible refine' tg_B ?k1); (case k1 => walk_at "ev"))
  | ((with_reducible refine' tg_not ?k1); (case k1 => walk_at "tv")))
local macro_rules | `(tactic| walk_at "nm") => `(tactic| first | dsimp only [cxOf] | skip)

section
variable {B : Bs} {mg : Str → Option Value} {base : Heap}
abbrev stD (x : Tw × Rat) : D := .tup [tw x.1, fr x.2]
theorem lim_pos {c : Bool} {m top : Int} (h1 : 1 ≤ m) (h2 : m ≤ 3) (h3 : 0 ≤ top) : 1 ≤ lim c m top ∧ lim c m top ≤ 3 := by
  unfold lim
  split <;> omega
theorem fzs_ints : ∀ T : Tw, fzs (T.map pr) = true
  | [] => by rw [List.map_nil, fzs]
  | p :: T => by
    rw [List.map_cons, fzs, fzs_ints T]
    rfl
theorem fz_tw (T : Tw) : fz (tw T) = true := by rw [fz]; exact fzs_ints T
theorem fz_st (x : Tw × Rat) : fz (stD x) = true := by
  rw [fz, fzs, fz_tw]
  rfl
theorem tr_ok {T : Tw} (h : TwOk T) : Srt1 T ∧ 0 ≤ hi T := ⟨h.1, hi_nonneg T⟩
def S_fresh (ds : List D) (e : D) : Prop := ∃ (T : Tw) (k : Int) (l l2 c : Bool) (a b m : Int), ds = [tw T, .int k, row l (chD a b), row l2 (rl c m)] ∧ TwOk T ∧ k ∉ T.map (·.1) ∧ ChOk a b ∧ 1 ≤ m ∧ m ≤ 3 ∧ e = .lst ((frs T k (Rat.divInt a b) c m).map stD)
theorem ok_fresh (T : Txt B.K mg) : FnOk B.P B.w B.K mg base CX0 6 T.fresh.f T.fresh.d p_fresh (PSp B.P B.w B.K S_fresh) := by
  have G_limit := ok_limit (base := base) T
  have G_highest := ok_highest (base := base) T
  have G_put_in := ok_put_in (base := base) T
  have G_share_of := ok_share_of (base := base) T
  refine fn_pure T.fresh.F sc_fresh (fun ds e h => by obtain ⟨_, _, _, _, _, _, _, _, rfl, _⟩ := h; rfl) fun pp cdv A outer s H E ds e hr hS => ⟨_, (pss_cons (ps_set (i := 4) sc_fresh.nd rfl (Or.inr rfl) (pe_call G_limit (hr.mono (by decide)) (by rfl) T.limit.g T.limit.F.kp T.limit.b .nil pass0 (pa_cons (pv 3) (pa_cons (pe_call G_highest (hr.mono (by decide)) (by rfl) T.highest.g T.highest.F.kp T.highest.b .nil pass0 (pa_cons (pv 0) pa_nil)) pa_nil)))) (pss_one (ps_ret (pe_lc (own := [("height", 5)]) rfl sc_fresh.nd (pi_range2 (by rfl) T.m_range (pa_cons pe_int (pa_cons (pe_op (k_add (K := B.K) rfl) (pv 4) pe_int) pa_nil))) (blkOk_by (own := [("height", 5)]) (N := n_fresh) (sc := defScope s_fresh) (by decide +kernel)) (fun _ _ _ _ _ => (pg_name (i := 5) sc_fresh.nd rfl (Or.inl rfl))) (fun _ _ _ _ _ => pts_nil) (fun _ _ _ _ _ => (pe_tupF (pa_cons (pe_call G_put_in (hr.mono (by decide)) (by rfl) T.put_in.g T.put_in.F.kp T.put_in.b .nil pass0 (pa_cons (pv 0) (pa_cons (pv 1) (pa_cons (pv 5) pa_nil)))) (pa_cons (pe_call G_share_of (hr.mono (by decide)) (by rfl) T.share_of.g T.share_of.F.kp T.share_of.b .nil pass0 (pa_cons (pv 2) (pa_cons (pv 5) (pa_cons (pv 4) pa_nil)))) pa_nil)))))))), ?_⟩
  obtain ⟨Tv, k, l, l2, c, a, b, m, rfl, hT, hk, hc, h1, h2, rfl⟩ := hS
  refine sg_ctx [some (tw Tv), some (.int k), some (row l (chD a b)), some (row l2 (rl c m)), none, none] rfl ?_
  refine sg_seq (sg_asg (eg_call (ag_cons (by walk_at "ev") (ag_cons (eg_call (by walk_at "av") ⟨Tv, rfl, hT, rfl⟩) ag_nil)) ⟨l2, c, m, hi Tv, rfl, rfl⟩) ?_)
  obtain ⟨e1, e2⟩ := lim_pos (c := c) h1 h2 (hi_nonneg Tv)
  have hn : lim c m (hi Tv) + 1 - 1 = lim c m (hi Tv) := by omega
  have hw := wg_range2 (B := B.at pp) (Γ := (([some (tw Tv), some (.int k), some (row l (chD a b)), some (row l2 (rl c m)), none, none] : Gm).set 4 (some (.int (lim c m (hi Tv)))))) (tA := tCons (tC (.int 1)) (tCons (tOp (rAddA B.K) (tVar 4) (tC (.int 1))) tNil)) (m := 1) (n := lim c m (hi Tv) + 1) (ag_cons eg_int (ag_cons (eg_add (eg_var rfl) eg_int) ag_nil)) (by omega) (by omega) (by omega) (by omega)
  rw [hn] at hw
  refine sg_ret (eg_lcAll (xs := List.range (lim c m (hi Tv)).toNat) (ee := fun (i : Nat) => .int (1 + i)) (js := [5]) (fun (i : Nat) => stD (ins Tv k (1 + (i : Int)), shr (Rat.divInt a b) (1 + i) (lim c m (hi Tv)).toNat)) hw (by decide) (by rw [List.length_range]; omega) fun i hi' => ⟨_, gg_name, eg_tup (ag_cons (eg_call (ag_cons (by walk_at "ev") (ag_cons (by walk_at "ev") (ag_cons (by walk_at "ev") ag_nil))) ⟨Tv, k, 1 + (i : Int), rfl, hT, hk, rfl⟩) (ag_cons (eg_call (ag_cons (by walk_at "ev") (ag_cons (by walk_at "ev") (ag_cons (by walk_at "ev") ag_nil))) ⟨l, a, b, 1 + i, (lim c m (hi Tv)).toNat, ?_, hc, by omega, ?_, by omega, rfl⟩) ag_nil)) (le1000 rfl), fz_st _⟩) ?_
  · have e3 : ((1 + i : Nat) : Int) = 1 + (i : Int) := by omega
    have e4 : (((lim c m (hi Tv)).toNat : Nat) : Int) = lim c m (hi Tv) := by omega
    rw [e3, e4]
  · have := List.mem_range.mp hi'
    omega
  · show D.lst _ = D.lst _
    unfold frs
    rw [List.map_map]
    rfl
abbrev dW (b : Bool) : Str := if b = true then "insert" else "remove"
abbrev dD (d : Deed) : D := .tup [.str (dW d.1), .int d.2]
def S_after (ds : List D) (e : D) : Prop := ∃ (T : Tw) (d : Deed) (l l2 c : Bool) (a b m : Int), ds = [tw T, dD d, row l (chD a b), row l2 (rl c m)] ∧ TwOk T ∧ ChOk a b ∧ 1 ≤ m ∧ m ≤ 3 ∧ e = .lst ((aft T d (Rat.divInt a b) c m).map stD)
theorem ok_after (T : Txt B.K mg) : FnOk B.P B.w B.K mg base CX0 7 T.after.f T.after.d p_after (PSp B.P B.w B.K S_after) := by
  have G_fresh := ok_fresh (base := base) T
  have G_put_out := ok_put_out (base := base) T
  refine fn_pure T.after.F sc_after (fun ds e h => by obtain ⟨_, _, _, _, _, _, _, _, rfl, _⟩ := h; rfl) fun pp cdv A outer s H E ds e hr hS => ⟨_, (pss_cons (ps_par (i := 4) (j := 5) rfl sc_after.nd rfl rfl (by decide) rfl rfl (pa_cons (pe_ix (k_ix (K := B.K) rfl) (pv 1) pe_int (fun _ _ => rfl)) (pa_cons (pe_ix (k_ix (K := B.K) rfl) (pv 1) pe_int (fun _ _ => rfl)) pa_nil)) (by rfl)) (pss_cons (ps_if (pt_cmpR (k_in (K := B.K) rfl (hu_of hr)) (pv 4) (pe_tupF (pa_cons pe_str (pa_cons pe_str pa_nil))) (by rfl)) pss_never pss_nil) (pss_cons (ps_set (i := 7) sc_after.nd rfl (Or.inl rfl) (pe_cmpR (k_in (K := B.K) rfl (hu_of hr)) (pv 5) (pe_callTy (k_dictT (K := B.K) rfl rfl) (by rfl) T.m_dict (by decide +kernel) (pa_cons (pv 0) pa_nil)) (by rfl))) (pss_cons (ps_if (PW.pt (pw_and (pt_cmpR (k_eq (K := B.K) rfl hr.units) (pv 4) pe_str (nomark _)) (pw_and1 (pt_not (pt_val (pv 7)))))) (pss_one (ps_ret (pe_call G_fresh (hr.mono (by decide)) (by rfl) T.fresh.g T.fresh.F.kp T.fresh.b .nil pass0 (pa_cons (pv 0) (pa_cons (pv 5) (pa_cons (pv 2) (pa_cons (pv 3) pa_nil))))))) pss_nil) (pss_cons (ps_if (PW.pt (pw_and (pt_cmpR (k_eq (K := B.K) rfl hr.units) (pv 4) pe_str (nomark _)) (pw_and1 (pt_val (pv 7))))) (pss_one (ps_ret (pe_lst (pa_cons (pe_tupF (pa_cons (pe_call G_put_out (hr.mono (by decide)) (by rfl) T.put_out.g T.put_out.F.kp T.put_out.b .nil pass0 (pa_cons (pv 0) (pa_cons (pv 5) pa_nil))) (pa_cons (pe_tupF (pa_cons pe_int (pa_cons pe_int pa_nil))) pa_nil))) pa_nil)))) pss_nil) (pss_one (ps_ret (pe_lst (pa_cons (pe_tupF (pa_cons (pv 0) (pa_cons (pe_tupF (pa_cons pe_int (pa_cons pe_int pa_nil))) pa_nil))) pa_nil))))))))), ?_⟩
  obtain ⟨Tv, ⟨w, k⟩, l, l2, c, a, b, m, rfl, hT, hc, h1, h2, rfl⟩ := hS
  refine sg_ctx [some (tw Tv), some (dD (w, k)), some (row l (chD a b)), some (row l2 (rl c m)), none, none, none, none] rfl ?_
  refine sg_seq (sg_par (d := .str (dW w)) (e := .int k) (ag_cons (eg_ixT (by walk_at "ev") (by walk_at "ev") rfl) (ag_cons (eg_ixT (by walk_at "ev") (by walk_at "ev") rfl) ag_nil)) ?_)
  refine sg_seq (sg_if (tg_is (b := inV (.str (dW w)) [.str "tallest", .str "lowest"]) (tg_test (eg_inT (by walk_at "ev") (by walk_at "ev") rfl rfl)) (c := false) (by cases w <;> decide +kernel)) (fun h => absurd h Bool.false_ne_true) fun _ => sg_next ?_)
  refine sg_seq (sg_asg (eg_inK (ks := Tv.map (·.1)) (k := k) (by walk_at "ev") (eg_bi (ag_cons (by walk_at "ev") ag_nil) (cg_dictT (srt1_nodup hT.1)))) ?_)
  have hw1 : decide (dW w = "insert") = w := by cases w <;> decide +kernel
  have hw2 : decide (dW w = "remove") = !w := by cases w <;> decide +kernel
  refine sg_seq (sg_if (tg_and (tg_is (tg_test (eg_eqStr (by walk_at "ev") (by walk_at "ev"))) hw1) fun _ => tg_not (tg_test (eg_var rfl))) (fun h => ?_) fun h => sg_next ?_)
  · obtain ⟨e1, e2⟩ := Bool.and_eq_true _ _ ▸ h
    subst e1
    have hk : k ∉ Tv.map (·.1) := of_decide_eq_false (by simpa using e2)
    refine sg_ret (eg_call (by walk_at "av") ⟨Tv, k, l, l2, c, a, b, m, rfl, hT, hk, hc, h1, h2, rfl⟩) ?_
    show D.lst _ = D.lst _
    unfold aft
    rw [if_pos rfl, if_neg hk]
  · refine sg_seq (sg_if (tg_and (tg_is (tg_test (eg_eqStr (by walk_at "ev") (by walk_at "ev"))) hw2) fun _ => tg_test (eg_var rfl)) (fun h' => ?_) fun h' => sg_next ?_)
    · obtain ⟨e1, e2⟩ := Bool.and_eq_true _ _ ▸ h'
      have e1 : w = false := by simpa using e1
      subst e1
      refine sg_ret (eg_lst (ag_cons (eg_tup (ag_cons (eg_call (by walk_at "av") ⟨Tv, k, rfl, hT.2.2, rfl⟩) (ag_cons (eg_is (eg_tup (ag_cons eg_int (ag_cons eg_int ag_nil)) (le1000 rfl)) fr_one.symm) ag_nil)) (le1000 rfl)) ag_nil) (le1000 rfl)) ?_
      exact rfl
    · refine sg_ret (eg_lst (ag_cons (eg_tup (ag_cons (by walk_at "ev") (ag_cons (eg_is (eg_tup (ag_cons eg_int (ag_cons eg_int ag_nil)) (le1000 rfl)) fr_one.symm) ag_nil)) (le1000 rfl)) ag_nil) (le1000 rfl)) ?_
      show D.lst _ = D.lst _
      unfold aft
      cases w with
      | true =>
        have hk : k ∈ Tv.map (·.1) := by simpa using h
        rw [if_pos rfl, if_pos hk]
        rfl
      | false =>
        have hk : k ∉ Tv.map (·.1) := by simpa using h'
        rw [if_neg Bool.false_ne_true, del_none hk]
        rfl
def S_lend (ds : List D) (e : D) : Prop := ∃ (c : Bool) (m : Int) (T : Tw), ds = [.tup (rl c m), tw T] ∧ TwOk T ∧ e = .int (lim c m (hi T))
theorem hi_list0 {T : Tw} (h : ∀ p ∈ T, 1 ≤ p.2) : hi T ∈ 0 :: T.map (·.2) ∧ ∀ y ∈ 0 :: T.map (·.2), y ≤ hi T := by
  obtain ⟨h1, h2⟩ := hi_list h
  by_cases e : T.map (·.2) = []
  · rw [e, h1 e]
    simp
  · obtain ⟨h3, h4⟩ := h2 e
    refine ⟨List.mem_cons_of_mem _ h3, fun y hy => ?_⟩
    rcases List.mem_cons.mp hy with z | hy
    · rw [z]; exact hi_nonneg T
    · exact h4 y hy
theorem ok_law_end (T : Txt B.K mg) : FnOk B.P B.w B.K mg base CX0 1 T.law_end.f T.law_end.d p_law_end (PSp B.P B.w B.K S_lend) := by
  refine fn_pure T.law_end.F sc_law_end (fun ds e h => by obtain ⟨_, _, _, rfl, _⟩ := h; rfl) fun pp cdv A outer s H E ds e hr hS => ⟨_, (pss_cons (ps_set (i := 2) sc_law_end.nd rfl (Or.inl rfl) (pe_op (k_add (K := B.K) rfl) (pe_callB (k_max (K := B.K) rfl rfl) (by rfl) T.m_max (by decide +kernel) (pa_cons (pe_op (k_add (K := B.K) rfl) (pe_lst (pa_cons pe_int pa_nil)) (pe_lc (own := [("_law_name", 3), ("_law_height", 4)]) rfl sc_law_end.nd (k_tup (K := B.K) rfl (pv 1)) (blkOk_by (own := [("_law_name", 3), ("_law_height", 4)]) (N := n_law_end) (sc := defScope s_law_end) (by decide +kernel)) (fun _ _ _ _ _ => (k_pg (K := B.K) (n := 2) rfl rfl (pgs_cons (pg_name (i := 3) sc_law_end.nd rfl (Or.inl rfl)) (pgs_cons (pg_name (i := 4) sc_law_end.nd rfl (Or.inl rfl)) pgs_nil)))) (fun _ _ _ _ _ => pts_nil) (fun _ _ _ _ _ => (pv 4)))) pa_nil)) pe_int)) (pss_cons (ps_if (pt_cmpR (k_eq (K := B.K) rfl hr.units) (pe_ix (k_ix (K := B.K) rfl) (pv 0) pe_int (fun _ _ => rfl)) pe_str (nomark _)) (pss_one (ps_ret (pe_ix (k_ix (K := B.K) rfl) (pv 0) pe_int (fun _ _ => rfl)))) pss_nil) (pss_one (ps_ret (pe_ifExp (pt_cmpR (k_eq (K := B.K) rfl hr.units) (pe_callB (k_len (K := B.K) rfl) (by rfl) T.m_len (by decide +kernel) (pa_cons (pv 0) pa_nil)) pe_int (nomark _)) (pv 2) (pe_callB (call_min2 rfl) (by rfl) T.m_min (by decide +kernel) (pa_cons (pv 2) (pa_cons (pe_ix (k_ix (K := B.K) rfl) (pv 0) pe_int (fun _ _ => rfl)) pa_nil)))))))), ?_⟩
  obtain ⟨c, m, Tv, rfl, hT, rfl⟩ := hS
  refine sg_ctx [some (.tup (rl c m)), some (tw Tv), none, none, none] rfl ?_
  have hc2 : decide (rW c = "cap") = c := by cases c <;> decide +kernel
  refine sg_seq (sg_asg (eg_add (eg_bi (ag_cons (eg_is (e := .lst ((0 :: Tv.map (·.2)).map D.int)) (eg_cat (ds := [.int 0]) (eg_lst (ag_cons eg_int ag_nil) (le1000 rfl)) (eg_lcAll (xs := Tv) (ee := pr) (js := [3] ++ ([4] ++ [])) (fun p => .int p.2) (wg_tup (by walk_at "ev")) (by decide) (by have := hT.2.2; omega) fun p hp => ⟨_, gg_2, by walk_at "ev", rfl⟩) ?_) ?_) ag_nil) (cg_max (by simp) (hi_list0 hT.2.1).1 (hi_list0 hT.2.1).2)) (by walk_at "ev")) ?_)
  · have := hT.2.2
    rw [List.length_map, sizeLine_eq]
    show 1 + Tv.length ≤ _
    omega
  · show D.lst _ = D.lst _
    rw [List.map_cons, List.map_map]
    rfl
  refine sg_seq (sg_if (tg_is (tg_test (eg_eqStr (eg_ixT (d := .str (rW c)) (by walk_at "ev") (by walk_at "ev") rfl) (by walk_at "ev"))) hc2) (fun h => ?_) fun h => sg_next ?_)
  · subst h
    refine sg_ret (d := .int m) (eg_ixT (by walk_at "ev") (by walk_at "ev") rfl) ?_
    exact rfl
  · subst h
    refine sg_ret (eg_if (b := false) (tg_is (b := decide (((rl false m).length : Int) = 1)) (tg_test (eg_eqI (eg_bi (by walk_at "av") cg_lenT) (by walk_at "ev"))) rfl) (fun h => absurd h Bool.false_ne_true) fun _ => eg_bi (ag_cons (by walk_at "ev") (ag_cons (eg_ixT (d := .int m) (by walk_at "ev") (by walk_at "ev") rfl) ag_nil)) cg_min2) ?_
    exact rfl
def S_lgone (ds : List D) (e : D) : Prop := ∃ (T : Tw) (k : Int), ds = [tw T, .int k] ∧ T.length ≤ 1000 ∧ e = tw (del T k)
theorem ok_law_gone (T : Txt B.K mg) : FnOk B.P B.w B.K mg base CX0 1 T.law_gone.f T.law_gone.d p_law_gone (PSp B.P B.w B.K S_lgone) := by
  refine fn_pure T.law_gone.F sc_law_gone (fun ds e h => by obtain ⟨a, b, rfl, _⟩ := h; rfl) fun pp cdv A outer s H E ds e hr hS => ⟨_, (pss_one (ps_ret (pe_callTy (call_tupF (K := B.K) rfl) (by rfl) T.m_tuple (by decide +kernel) (pa_cons (pe_lc (own := [("_law_pair", 2)]) rfl sc_law_gone.nd (k_tup (K := B.K) rfl (pv 0)) (blkOk_by (own := [("_law_pair", 2)]) (N := n_law_gone) (sc := defScope s_law_gone) (by decide +kernel)) (fun _ _ _ _ _ => (pg_name (i := 2) sc_law_gone.nd rfl (Or.inl rfl))) (fun _ _ _ _ _ => (pts_one (pt_cmpR (k_ne (K := B.K) rfl hr.units) (pe_ix (k_ix (K := B.K) rfl) (pv 2) pe_int (fun _ _ => rfl)) (pv 1) (nomark _)))) (fun _ _ _ _ _ => (pv 2))) pa_nil)))), ?_⟩
  obtain ⟨Tv, k, rfl, hT, rfl⟩ := hS
  refine sg_ctx [some (tw Tv), some (.int k), none] rfl ?_
  refine sg_ret (eg_bi (ag_cons (eg_lc (xs := Tv) (ee := pr) (js := [2]) (fun p => decide (p.1 ≠ k)) pr (wg_tup (by walk_at "ev")) (by decide) (by omega) fun p hp => ⟨_, gg_name, tg_is (tg_test (eg_neS (x := .int p.1) (y := .int k) (eg_ixT (d := .int p.1) (by walk_at "ev") (by walk_at "ev") rfl) (by walk_at "ev") rfl rfl rfl)) (ne_dec _ _), fun _ => ⟨by walk_at "ev", rfl⟩⟩) ag_nil) cg_tupleL) ?_
  exact rfl
end
end Tl
end
section
set_option Elab.async false
set_option linter.all false
set_option maxRecDepth 100000
set_option maxHeartbeats 2000000
set_option autoImplicit false
set_option exponentiation.threshold 10000

/-! A search: its steps, what it compares. -/
namespace Tl
open PySem PySem.Spec PyProof.Rows L2
local macro_rules | `(tactic| walk_at "ev") => `(tactic| first
  | ((with_reducible refine' eg_var ?k1); (case k1 => exact rfl))
  | with_reducible exact eg_int
  | with_reducible exact eg_str
  | with_reducible exact eg_bl
  | with_reducible exact eg_non
  | ((with_reducible refine' eg_sub ?k1 ?k2); (case k1 => walk_at "ev"); (case k2 => walk_at "ev"))
  | ((with_reducible refine' eg_add ?k1 ?k2); (case k1 => walk_at "ev"); (case k2 => walk_at "ev"))
  | ((with_reducible refine' eg_lt ?k1 ?k2); (case k1 => walk_at "ev"); (case k2 => walk_at "ev"))
  | ((with_reducible refine' eg_le ?k1 ?k2); (case k1 => walk_at "ev"); (case k2 => walk_at "ev"))
  | ((with_reducible refine' eg_gt ?k1 ?k2); (case k1 => walk_at "ev"); (case k2 => walk_at "ev"))
  | ((with_reducible refine' eg_ge ?k1 ?k2); (case k1 => walk_at "ev"); (case k2 => walk_at "ev"))
  | ((with_reducible refine' eg_neg ?k1); (case k1 => walk_at "ev"))
  | ((with_reducible refine' eg_ixT ?k1 ?k2 ?k3); (case k1 => walk_at "ev"); (case k2 => walk_at "ev"); (case k3 => exact rfl))
  | ((with_reducible refine' eg_ixL ?k1 ?k2 ?k3); (case k1 => walk_at "ev"); (case k2 => walk_at "ev"); (case k3 => exact rfl))
  | ((with_reducible refine' eg_tup ?k1 ?k2); (case k1 => walk_at "av"); (case k2 => exact le1000 rfl))
  | ((with_reducible refine' eg_lst ?k1 ?k2); (case k1 => walk_at "av"); (case k2 => exact le1000 rfl))
  | ((with_reducible refine' eg_isN ?k1 ?k2); (case k1 => walk_at "ev"); (case k2 => exact rfl))
  | ((with_reducible refine' eg_notN ?k1 ?k2); (case k1 => walk_at "ev"); (case k2 => exact rfl))
  | ((with_reducible refine' eg_eqI ?k1 ?k2); (case k1 => walk_at "ev"); (case k2 => walk_at "ev"))
  | ((with_reducible refine' eg_eqStr ?k1 ?k2); (case k1 => walk_at "ev"); (case k2 => walk_at "ev"))
  | assumption)
local macro_rules | `(tactic| walk_at "av") => `(tactic| first
  | with_reducible exact ag_nil
  | ((with_reducible refine' ag_cons ?k1 ?k2); (case k1 => walk_at "ev"); (case k2 => walk_at "av")))
local macro_rules | `(tactic| walk_at "tv") => `(tactic| first
  | ((with_reducible refine' tg_test ?k1); (case k1 => walk_at "ev"))
  | ((with_reducible refine' tg_B ?k1); (case k1 => walk_at "ev"))
  | ((with_reducible refine' tg_not ?k1); (case k1 => walk_at "tv")))
local macro_rules | `(tactic| walk_at "nm") => `(tactic| first | dsimp only [cxOf] | skip)

section
variable {B : Bs} {mg : Str → Option Value} {base : Heap}
abbrev stpD (s : Stp) : D := .tup (.str s.1 :: s.2.map D.int)
section
variable {Γ : Gm} {te tp : TE}
theorem eg_key {T : Tw} {i : Nat} {q : Int × Int} (h1 : EG B te Γ (tw T)) (h2 : EG B tp Γ (.int (i : Nat))) (hp : T[i]? = some q) : EG B (tOp (rIxA B.K) (tOp (rIxA B.K) te tp) (tC (.int 0))) Γ (.int (keyAt T i)) := by
  have e : keyAt T i = q.1 := by unfold keyAt; rw [hp]; rfl
  rw [e]
  exact eg_ixT (ds := [.int q.1, .int q.2]) (eg_ixT h1 h2 (at_nat (by rw [List.getElem?_map, hp]; rfl))) eg_int rfl
/-- place == behind -/
theorem eg_same {ta tb : TE} {i : Nat} {met : Option Nat} (h1 : EG B ta Γ (.int (i : Nat))) (h2 : EG B tb Γ (oD met)) : EG B (tOp (rEqA B.K) ta tb) Γ (.bl (decide (met = some i))) := by
  cases met with
  | none => exact eg_eqS (x := .int (i : Nat)) (y := .non) h1 h2 rfl rfl rfl
  | some j =>
    refine eg_is (eg_eqI h1 h2) (congrArg D.bl ?_)
    by_cases h : i = j
    · subst h; simp
    · have h3 : ¬ (i : Int) = (j : Int) := by omega
      have h4 : ¬ j = i := fun z => h z.symm
      simp [h3, h4]
end
/-- the loop of the walk: what is found so far, and what is still to come -/
def WI (T : Tw) (key : Int) (m : Str) (bg : Int) (p : Addr) (tgt : List Stp) (N : Nat) (n : Nat) (Γ : Gm) (ds : List D) : Prop :=
  ∃ (f l b : Nat) (met : Option Nat) (x y : Option D) (acc : List Stp), Γ = [some (tw T), some (.int key), some (.str m), some (.int bg), some (.int (l : Nat)), some (.int ((b : Int) - 1)), some (oD met), some (raw p), x, y] ∧
    ds = acc.map stpD ∧ acc ++ wkS T key (lean m) (early m) f l b met = tgt ∧ n = l + (T.length - b) ∧ n < f ∧ b ≤ T.length ∧ acc.length + n ≤ N
def S_walked (ds : List D) (e : D) : Prop := ∃ (T : Tw) (key : Int) (m : Str), ds = [tw T, .int key, .str m, .int (hi T)] ∧ T.length ≤ 1000 ∧ hi T ≤ 1000 ∧ e = .lst ((wkAll T key (lean m) (early m)).map stpD)
theorem wkS_0 {T : Tw} {key : Int} {ln el : Bool} {f b : Nat} {met : Option Nat} : wkS T key ln el (f + 1) 0 b met = match nxt T b 1 with
    | none => []
    | some i => if el = true then [] else [("look", [keyAt T i])] := rfl
theorem ok_walked (T : Txt B.K mg) : FnOk B.P B.w B.K mg base CX0 2 T.walked.f T.walked.d p_walked (PSp B.P B.w B.K S_walked) := by
  have G_next_place := ok_next_place (base := base) T
  have G_is_lean := ok_is_lean (base := base) T
  have G_is_early := ok_is_early (base := base) T
  refine fn_pure T.walked.F sc_walked (fun ds e h => by obtain ⟨a, b, c, rfl, _⟩ := h; rfl) fun pp cdv A outer s H E ds e hr hS => ⟨_, (pss_cons (ps_asg (pe_tupF (pa_cons (pv 3) (pa_cons (pe_un un_neg pe_int) (pa_cons pe_non (pa_cons (pe_lst pa_nil) pa_nil))))) (k_pg (K := B.K) (n := 4) rfl rfl (pgs_cons (pg_name (i := 4) sc_walked.nd rfl (Or.inl rfl)) (pgs_cons (pg_name (i := 5) sc_walked.nd rfl (Or.inl rfl)) (pgs_cons (pg_name (i := 6) sc_walked.nd rfl (Or.inl rfl)) (pgs_cons (pg_name (i := 7) sc_walked.nd rfl (Or.inl rfl)) pgs_nil)))))) (pss_cons (ps_while PassesOwn.never (pt_cmpR op_gt (pv 4) pe_int (nomark _)) (pss_cons (ps_set (i := 8) sc_walked.nd rfl (Or.inl rfl) (pe_call G_next_place (hr.mono (by decide)) (by rfl) T.next_place.g T.next_place.F.kp T.next_place.b .nil pass0 (pa_cons (pv 0) (pa_cons (pv 5) (pa_cons (pv 4) pa_nil))))) (pss_cons (ps_if (pt_cmpR op_isNn (pv 8) pe_non (nomark _)) (pss_one (ps_expr (k_bm (K := B.K) rfl PySem.F.plainAttrs_list PySem.F.slot_list_append PySem.F.type_list_append mt_append (pv 7) (pa_cons (pe_tupF (pa_cons pe_str (pa_cons (pv 4) pa_nil))) pa_nil)))) (pss_one (ps_if (PW.pt (pw_and (pt_cmpR (k_eq (K := B.K) rfl hr.units) (pv 8) (pv 6) (nomark _)) (pw_and1 (pt_val (pe_call G_is_lean (hr.mono (by decide)) (by rfl) T.is_lean.g T.is_lean.F.kp T.is_lean.b .nil pass0 (pa_cons (pv 2) pa_nil)))))) (pss_one (ps_expr (k_bm (K := B.K) rfl PySem.F.plainAttrs_list PySem.F.slot_list_append PySem.F.type_list_append mt_append (pv 7) (pa_cons (pe_tupF (pa_cons pe_str (pa_cons (pv 4) (pa_cons (pe_ix (k_ix (K := B.K) rfl) (pe_ix (k_ix (K := B.K) rfl) (pv 0) (pv 8) (fun _ _ => rfl)) pe_int (fun _ _ => rfl)) pa_nil)))) pa_nil)))) (pss_one (ps_if (pt_cmpR op_lt (pe_ix (k_ix (K := B.K) rfl) (pe_ix (k_ix (K := B.K) rfl) (pv 0) (pv 8) (fun _ _ => rfl)) pe_int (fun _ _ => rfl)) (pv 1) (nomark _)) (pss_cons (ps_expr (k_bm (K := B.K) rfl PySem.F.plainAttrs_list PySem.F.slot_list_append PySem.F.type_list_append mt_append (pv 7) (pa_cons (pe_tupF (pa_cons pe_str (pa_cons (pv 4) (pa_cons (pe_ix (k_ix (K := B.K) rfl) (pe_ix (k_ix (K := B.K) rfl) (pv 0) (pv 8) (fun _ _ => rfl)) pe_int (fun _ _ => rfl)) pa_nil)))) pa_nil))) (pss_cons (ps_set (i := 5) sc_walked.nd rfl (Or.inl rfl) (pv 8)) (pss_one ps_continue))) (pss_one (ps_if (PW.pt (pw_and (pt_cmpR (k_eq (K := B.K) rfl hr.units) (pe_ix (k_ix (K := B.K) rfl) (pe_ix (k_ix (K := B.K) rfl) (pv 0) (pv 8) (fun _ _ => rfl)) pe_int (fun _ _ => rfl)) (pv 1) (nomark _)) (pw_and1 (pt_val (pe_call G_is_early (hr.mono (by decide)) (by rfl) T.is_early.g T.is_early.F.kp T.is_early.b .nil pass0 (pa_cons (pv 2) pa_nil)))))) (pss_one (ps_ret (pe_op (k_add (K := B.K) rfl) (pv 7) (pe_lst (pa_cons (pe_tupF (pa_cons pe_str (pa_cons (pv 4) (pa_cons (pv 1) pa_nil)))) pa_nil))))) (pss_one (ps_expr (k_bm (K := B.K) rfl PySem.F.plainAttrs_list PySem.F.slot_list_append PySem.F.type_list_append mt_append (pv 7) (pa_cons (pe_tupF (pa_cons pe_str (pa_cons (pv 4) (pa_cons (pe_ix (k_ix (K := B.K) rfl) (pe_ix (k_ix (K := B.K) rfl) (pv 0) (pv 8) (fun _ _ => rfl)) pe_int (fun _ _ => rfl)) pa_nil)))) pa_nil))))))))))) (pss_one (ps_par (i := 6) (j := 4) rfl sc_walked.nd rfl rfl (by decide) rfl rfl (pa_cons (pv 8) (pa_cons (pe_op op_sub (pv 4) pe_int) pa_nil)) (by rfl)))))) (pss_cons (ps_set (i := 9) sc_walked.nd rfl (Or.inl rfl) (pe_call G_next_place (hr.mono (by decide)) (by rfl) T.next_place.g T.next_place.F.kp T.next_place.b .nil pass0 (pa_cons (pv 0) (pa_cons (pv 5) (pa_cons pe_int pa_nil))))) (pss_cons (ps_if (PW.pt (pw_and (pt_cmpR op_notNn (pv 9) pe_non (nomark _)) (pw_and1 (pt_not (pt_val (pe_call G_is_early (hr.mono (by decide)) (by rfl) T.is_early.g T.is_early.F.kp T.is_early.b .nil pass0 (pa_cons (pv 2) pa_nil))))))) (pss_one (ps_expr (k_bm (K := B.K) rfl PySem.F.plainAttrs_list PySem.F.slot_list_append PySem.F.type_list_append mt_append (pv 7) (pa_cons (pe_tupF (pa_cons pe_str (pa_cons (pe_ix (k_ix (K := B.K) rfl) (pe_ix (k_ix (K := B.K) rfl) (pv 0) (pv 9) (fun _ _ => rfl)) pe_int (fun _ _ => rfl)) pa_nil))) pa_nil)))) pss_nil) (pss_one (ps_ret (pv 7))))))), ?_⟩
  obtain ⟨Tv, key, m, rfl, hT, hh, rfl⟩ := hS
  have h0 := hi_nonneg Tv
  refine sg_ctx [some (tw Tv), some (.int key), some (.str m), some (.int (hi Tv)), none, none, none, none, none, none] rfl ?_
  refine sg_openR (opens_4 (i1 := 4) (i2 := 5) (i3 := 6) (i4 := 7) (d1 := .int (hi Tv)) (d2 := .int (-1)) (d3 := .non) (by walk_at "ev") (by walk_at "ev") (by walk_at "ev")) fun p hp => ?_
  have hR : ∀ (H : Hp) (v : V) (d : D), R ((B.at pp).op p) H v d → R (B.at pp) H v d := fun _ _ _ r => r.shut
  refine si_seq (si_while lj_stb (WI Tv key m (hi Tv) p (wkAll Tv key (lean m) (early m)) ((hi Tv).toNat + Tv.length)) ((hi Tv).toNat + Tv.length) ⟨(hi Tv).toNat + Tv.length + 1, (hi Tv).toNat, 0, none, none, none, [], ?_, rfl, List.nil_append _, by omega, by omega, by omega, by simp⟩ ?_)
  · have e : (((hi Tv).toNat : Nat) : Int) = hi Tv := by omega
    rw [e]
    rfl
  rintro n Γ ds ⟨f, l, b, met, x, y, acc, rfl, rfl, htg, hn, hf, hb, hN⟩
  refine ⟨_, by walk_at "tv", fun hl => ?_, fun hl => ?_⟩
  · have hl0 : (0 : Int) < l := of_decide_eq_true hl
    obtain ⟨l, rfl⟩ : ∃ k, l = k + 1 := ⟨l - 1, by omega⟩
    obtain ⟨f, rfl⟩ : ∃ k, f = k + 1 := ⟨f - 1, by omega⟩
    have hlast : ((l + 1 : Nat) : Int) - 1 = (l : Nat) := by omega
    refine si_seq (si_sg lj_stb hR (sg_asg (eg_call (by walk_at "av") ⟨Tv, b, ((l + 1 : Nat) : Int), rfl, hT, hb, rfl⟩) ?_))
    unfold wkS at htg
    rcases hx : nxt Tv b ((l + 1 : Nat) : Int) with _ | i
    · rw [hx] at htg; dsimp only at htg
      refine si_seq (si_if lj_stb (tg_test (eg_isN (d := .non) (by walk_at "ev") (b := true) rfl)) (fun _ => ?_) fun h => absurd h (by decide))
      refine si_append (i := 7) (d := .tup [.str "end", .int ((l + 1 : Nat) : Int)]) rfl (by walk_at "ev") (by rw [List.length_map]; omega) ?_
      refine si_sg lj_stb hR (sg_par (d := oD none) (e := .int (((l + 1 : Nat) : Int) - 1)) (ag_cons (eg_var rfl) (ag_cons (by walk_at "ev") ag_nil)) ?_)
      rw [hlast]
      refine ⟨l + (Tv.length - b), by omega, f, l, b, none, _, y, acc ++ ([("end", [((l + 1 : Nat) : Int)])] : List Stp), rfl, by rw [List.map_append]; rfl, by rw [List.append_assoc]; exact htg, rfl, by omega, hb, by rw [List.length_append, List.length_singleton]; omega⟩
    · rw [hx] at htg; dsimp only at htg
      obtain ⟨hbi, q, hq, _⟩ := nxt_some rfl hx
      have hi' : i < Tv.length := (List.getElem?_eq_some_iff.mp hq).1
      refine si_seq (si_if lj_stb (tg_test (eg_isN (d := .int (i : Nat)) (by walk_at "ev") (b := false) rfl)) (fun h => absurd h (by decide)) fun _ => ?_)
      refine si_if lj_stb (tg_and (tg_test (eg_same (i := i) (met := met) (by walk_at "ev") (by walk_at "ev"))) fun _ => tg_test (eg_call (by walk_at "av") ⟨m, rfl, rfl⟩)) (fun h => ?_) fun h => ?_
      · rw [if_pos h] at htg
        refine si_append (i := 7) (d := .tup [.str "same", .int ((l + 1 : Nat) : Int), .int (keyAt Tv i)]) rfl (eg_tup (ag_cons (by walk_at "ev") (ag_cons (by walk_at "ev") (ag_cons (eg_key (by walk_at "ev") (by walk_at "ev") hq) ag_nil))) (le1000 rfl)) (by rw [List.length_map]; omega) ?_
        refine si_sg lj_stb hR (sg_par (d := oD (some i)) (e := .int (((l + 1 : Nat) : Int) - 1)) (ag_cons (eg_var rfl) (ag_cons (by walk_at "ev") ag_nil)) ?_)
        rw [hlast]
        refine ⟨l + (Tv.length - b), by omega, f, l, b, some i, _, y, acc ++ ([("same", [((l + 1 : Nat) : Int), keyAt Tv i])] : List Stp), rfl, by rw [List.map_append]; rfl, by rw [List.append_assoc]; exact htg, rfl, by omega, hb, by rw [List.length_append, List.length_singleton]; omega⟩
      · rw [if_neg (by rw [h]; exact Bool.false_ne_true)] at htg
        refine si_if lj_stb (tg_test (eg_lt (eg_key (by walk_at "ev") (by walk_at "ev") hq) (by walk_at "ev"))) (fun h => ?_) fun h => ?_
        · rw [if_pos (of_decide_eq_true h)] at htg
          refine si_seq (si_append (i := 7) (d := .tup [.str "right", .int ((l + 1 : Nat) : Int), .int (keyAt Tv i)]) rfl (eg_tup (ag_cons (by walk_at "ev") (ag_cons (by walk_at "ev") (ag_cons (eg_key (by walk_at "ev") (by walk_at "ev") hq) ag_nil))) (le1000 rfl)) (by rw [List.length_map]; omega) ?_)
          refine si_seq (si_sg lj_stb hR (sg_asg (d := .int (i : Nat)) (by walk_at "ev") ?_))
          refine si_sg lj_stb hR (sg_cont ?_)
          have e : ((i + 1 : Nat) : Int) - 1 = (i : Nat) := by omega
          refine ⟨l + 1 + (Tv.length - (i + 1)), by omega, f, l + 1, i + 1, met, _, y, acc ++ ([("right", [((l + 1 : Nat) : Int), keyAt Tv i])] : List Stp), by rw [e]; rfl, by rw [List.map_append]; rfl, by rw [List.append_assoc]; exact htg, rfl, by omega, by omega, by rw [List.length_append, List.length_singleton]; omega⟩
        · rw [if_neg (of_decide_eq_false h)] at htg
          refine si_if lj_stb (tg_and (tg_test (eg_eqI (eg_key (by walk_at "ev") (by walk_at "ev") hq) (by walk_at "ev"))) fun _ => tg_test (eg_call (by walk_at "av") ⟨m, rfl, rfl⟩)) (fun h => ?_) fun h => ?_
          · rw [if_pos h] at htg
            refine si_retC (i := 7) hp rfl (eg_cat (ds := acc.map stpD) (es := [.tup [.str "found", .int ((l + 1 : Nat) : Int), .int key]]) (by walk_at "ev") (eg_lst (ag_cons (by walk_at "ev") ag_nil) (le1000 rfl)) ?_) ?_
            · rw [List.length_map, sizeLine_eq]
              show acc.length + 1 ≤ _
              omega
            · show D.lst _ = D.lst _
              rw [← htg, List.map_append]
              rfl
          · rw [if_neg (by rw [h]; exact Bool.false_ne_true)] at htg
            refine si_append (i := 7) (d := .tup [.str "stop", .int ((l + 1 : Nat) : Int), .int (keyAt Tv i)]) rfl (eg_tup (ag_cons (by walk_at "ev") (ag_cons (by walk_at "ev") (ag_cons (eg_key (by walk_at "ev") (by walk_at "ev") hq) ag_nil))) (le1000 rfl)) (by rw [List.length_map]; omega) ?_
            refine si_sg lj_stb hR (sg_par (d := oD (some i)) (e := .int (((l + 1 : Nat) : Int) - 1)) (ag_cons (eg_var rfl) (ag_cons (by walk_at "ev") ag_nil)) ?_)
            rw [hlast]
            refine ⟨l + (Tv.length - b), by omega, f, l, b, some i, _, y, acc ++ ([("stop", [((l + 1 : Nat) : Int), keyAt Tv i])] : List Stp), rfl, by rw [List.map_append]; rfl, by rw [List.append_assoc]; exact htg, rfl, by omega, hb, by rw [List.length_append, List.length_singleton]; omega⟩
  · have hl0 : ¬ (0 : Int) < l := of_decide_eq_false hl
    have hl1 : l = 0 := by omega
    subst hl1
    obtain ⟨f, rfl⟩ : ∃ k, f = k + 1 := ⟨f - 1, by omega⟩
    rw [wkS_0] at htg
    dsimp only [thenI]
    refine si_seq (si_sg lj_stb hR (sg_asg (d := oD (nxt Tv b 1)) (eg_call (ds := [tw Tv, .int ((b : Int) - 1), .int 1]) (by walk_at "av") ⟨Tv, b, 1, rfl, hT, hb, rfl⟩) ?_))
    dsimp only [liftO, thenI]
    rcases hx : nxt Tv b 1 with _ | i
    · rw [hx] at htg; dsimp only at htg
      refine si_seq (si_if lj_stb (tg_andF (a := false) (tg_test (eg_notN (d := .non) (by walk_at "ev") (b := true) rfl)) fun h => absurd h (by decide)) (fun h => absurd h (by decide)) fun _ => si_sg lj_stb hR (sg_next ?_))
      dsimp only [liftO, thenI]
      refine si_retC (i := 7) hp rfl (eg_var rfl) ?_
      show D.lst _ = D.lst _
      rw [← htg, List.append_nil]
    · rw [hx] at htg; dsimp only at htg
      obtain ⟨hbi, q, hq, _⟩ := nxt_some rfl hx
      refine si_seq (si_if lj_stb (tg_and (a := true) (tg_test (eg_notN (d := .int (i : Nat)) (by walk_at "ev") (b := false) rfl)) fun _ => tg_not (tg_test (eg_call (by walk_at "av") ⟨m, rfl, rfl⟩))) (fun h => ?_) fun h => ?_)
      · have he : early m = false := by simpa using h
        rw [he] at htg
        refine si_append (i := 7) (d := .tup [.str "look", .int (keyAt Tv i)]) rfl (eg_tup (ag_cons (by walk_at "ev") (ag_cons (eg_key (by walk_at "ev") (by walk_at "ev") hq) ag_nil)) (le1000 rfl)) (by rw [List.length_map]; omega) ?_
        dsimp only [liftO, thenI]
        refine si_retC (i := 7) hp rfl (eg_var rfl) ?_
        show D.lst _ = D.lst _
        rw [if_neg Bool.false_ne_true] at htg
        rw [he, ← htg, List.map_append]
        rfl
      · have he : early m = true := by simpa using h
        rw [he] at htg
        refine si_sg lj_stb hR (sg_next ?_)
        dsimp only [liftO, thenI]
        refine si_retC (i := 7) hp rfl (eg_var rfl) ?_
        show D.lst _ = D.lst _
        rw [if_pos rfl, List.append_nil] at htg
        rw [he, htg]
end
end Tl
end
section
set_option Elab.async false
set_option linter.all false
set_option maxRecDepth 100000
set_option maxHeartbeats 2000000
set_option autoImplicit false
/-! Data that are compared: when they are the same. -/
namespace Tl
open PySem PySem.Spec PyProof.Rows L2
mutual
def sk : D → Bool
  | .non => true
  | .int _ => true
  | .str x => PyData.strOk x
  | .tup ds => sks ds
  | .lst ds => sks ds
  | .bl _ => false
  | .dk _ => false
  | .dn _ => false
  | .raw _ => false
def sks : List D → Bool
  | [] => true
  | d :: ds => sk d && sks ds
end
mutual
theorem sk_pl : ∀ d : D, sk d = true → pl d = true
  | .non, _ => rfl
  | .int _, _ => rfl
  | .str _, _ => rfl
  | .tup ds, h => by
    rw [sk] at h
    rw [pl]
    exact sks_pl ds h
  | .lst ds, h => by
    rw [sk] at h
    rw [pl]
    exact sks_pl ds h
  | .bl _, h => by rw [sk] at h; cases h
  | .dk _, h => by rw [sk] at h; cases h
  | .dn _, h => by rw [sk] at h; cases h
  | .raw _, h => by rw [sk] at h; cases h
theorem sks_pl : ∀ ds : List D, sks ds = true → pls ds = true
  | [], _ => rfl
  | d :: ds, h => by
    rw [sks, Bool.and_eq_true] at h
    rw [pls, sk_pl d h.1, sks_pl ds h.2]
    rfl
end
mutual
theorem sk_can : ∀ d : D, sk d = true → (py d).canLay0 = true
  | .non, _ => rfl
  | .int _, _ => rfl
  | .str x, h => by
    rw [sk] at h
    rw [py, PyData.canLay0]
    exact h
  | .tup ds, h => by
    rw [sk] at h
    rw [py, PyData.canLay0]
    exact sks_can ds h
  | .lst ds, h => by
    rw [sk] at h
    rw [py, PyData.canLay0]
    exact sks_can ds h
  | .bl _, h => by rw [sk] at h; cases h
  | .dk _, h => by rw [sk] at h; cases h
  | .dn _, h => by rw [sk] at h; cases h
  | .raw _, h => by rw [sk] at h; cases h
theorem sks_can : ∀ ds : List D, sks ds = true → PyData.canLayAll0 (pys ds) = true
  | [], _ => rfl
  | d :: ds, h => by
    rw [sks, Bool.and_eq_true] at h
    rw [pys, PyData.canLayAll0, sk_can d h.1, sks_can ds h.2]
    rfl
end
mutual
theorem sk_eqv : ∀ d e : D, sk d = true → sk e = true → (PyData.eqv (py d) (py e) = true ↔ d = e)
  | d, .bl _, _, h => by rw [sk] at h; cases h
  | d, .dk _, _, h => by rw [sk] at h; cases h
  | d, .dn _, _, h => by rw [sk] at h; cases h
  | d, .raw _, _, h => by rw [sk] at h; cases h
  | .bl _, e, h, _ => by rw [sk] at h; cases h
  | .dk _, e, h, _ => by rw [sk] at h; cases h
  | .dn _, e, h, _ => by rw [sk] at h; cases h
  | .raw _, e, h, _ => by rw [sk] at h; cases h
  | .non, .non, _, _ => by simp [py, PyData.eqv]
  | .non, .int _, _, _ => by simp [py, PyData.eqv]
  | .non, .str _, _, _ => by simp [py, PyData.eqv]
  | .non, .tup _, _, _ => by simp [py, PyData.eqv]
  | .non, .lst _, _, _ => by simp [py, PyData.eqv]
  | .int _, .non, _, _ => by simp [py, PyData.eqv]
  | .int _, .int _, _, _ => by simp [py, PyData.eqv]
  | .int _, .str _, _, _ => by simp [py, PyData.eqv]
  | .int _, .tup _, _, _ => by simp [py, PyData.eqv]
  | .int _, .lst _, _, _ => by simp [py, PyData.eqv]
  | .str _, .non, _, _ => by simp [py, PyData.eqv]
  | .str _, .int _, _, _ => by simp [py, PyData.eqv]
  | .str _, .str _, _, _ => by simp [py, PyData.eqv]
  | .str _, .tup _, _, _ => by simp [py, PyData.eqv]
  | .str _, .lst _, _, _ => by simp [py, PyData.eqv]
  | .tup _, .non, _, _ => by simp [py, PyData.eqv]
  | .tup _, .int _, _, _ => by simp [py, PyData.eqv]
  | .tup _, .str _, _, _ => by simp [py, PyData.eqv]
  | .tup ds, .tup es, h, g => by
    rw [sk] at h g
    rw [py, py, PyData.eqv, sks_eqv ds es h g]
    constructor
    · intro z; rw [z]
    · intro z; cases z; rfl
  | .tup _, .lst _, _, _ => by simp [py, PyData.eqv]
  | .lst _, .non, _, _ => by simp [py, PyData.eqv]
  | .lst _, .int _, _, _ => by simp [py, PyData.eqv]
  | .lst _, .str _, _, _ => by simp [py, PyData.eqv]
  | .lst _, .tup _, _, _ => by simp [py, PyData.eqv]
  | .lst ds, .lst es, h, g => by
    rw [sk] at h g
    rw [py, py, PyData.eqv, sks_eqv ds es h g]
    constructor
    · intro z; rw [z]
    · intro z; cases z; rfl
theorem sks_eqv : ∀ ds es : List D, sks ds = true → sks es = true → (PyData.eqvAll (pys ds) (pys es) = true ↔ ds = es)
  | [], [], _, _ => by simp [pys, PyData.eqvAll]
  | [], _ :: _, _, _ => by simp [pys, PyData.eqvAll]
  | _ :: _, [], _, _ => by simp [pys, PyData.eqvAll]
  | d :: ds, e :: es, h, g => by
    rw [sks, Bool.and_eq_true] at h g
    rw [pys, pys, PyData.eqvAll, Bool.and_eq_true, sk_eqv d e h.1 g.1, sks_eqv ds es h.2 g.2, List.cons.injEq]
end
/-- not deep -/
def dp (d : D) : Prop := (py d).depth ≤ 64
theorem shp {d : D} (h : sk d = true) (g : dp d) : SeqAt.shaped (py d) = true := by
  unfold SeqAt.shaped
  rw [sk_can d h, Bool.true_and]
  exact decide_eq_true g
section
variable {B : Bs} {Γ : Gm} {ta tb : TE} {d e : D}
theorem eg_eqK {b : Bool} (ha : EG B ta Γ d) (hb : EG B tb Γ e) (hd : sk d = true) (he : sk e = true) (gd : dp d) (ge : dp e) (h : b = true ↔ d = e) : EG B (tOp (rEqA B.K) ta tb) Γ (.bl b) := by
  refine eg_is (eg_eqD ha hb (sk_pl d hd) (sk_pl e he) (shp hd gd) (shp he ge)) (congrArg D.bl ?_)
  have z := sk_eqv d e hd he
  cases b with
  | true => exact z.mpr (h.mp rfl)
  | false =>
    cases q : PyData.eqv (py d) (py e) with
    | false => rfl
    | true => exact absurd (h.mpr (z.mp q)) Bool.false_ne_true
theorem eg_neK {b : Bool} (ha : EG B ta Γ d) (hb : EG B tb Γ e) (hd : sk d = true) (he : sk e = true) (gd : dp d) (ge : dp e) (h : b = true ↔ d = e) : EG B (tOp (rNeA B.K) ta tb) Γ (.bl (!b)) := by
  refine eg_is (eg_neD ha hb (sk_pl d hd) (sk_pl e he) (shp hd gd) (shp he ge)) (congrArg (fun x => D.bl !x) ?_)
  have z := sk_eqv d e hd he
  cases b with
  | true => exact z.mpr (h.mp rfl)
  | false =>
    cases q : PyData.eqv (py d) (py e) with
    | false => rfl
    | true => exact absurd (h.mpr (z.mp q)) Bool.false_ne_true
theorem sks_ints : ∀ ns : List Int, sks (ns.map D.int) = true
  | [] => rfl
  | n :: ns => by rw [List.map_cons, sks, sks_ints ns]; rfl
theorem dps_ints : ∀ ns : List Int, PyData.depthAll (pys (ns.map D.int)) = 0
  | [] => rfl
  | n :: ns => by rw [List.map_cons, pys, PyData.depthAll, dps_ints ns]; rfl
theorem sks_strs : ∀ ns : List Str, (∀ x ∈ ns, PyData.strOk x = true) → sks (ns.map D.str) = true
  | [], _ => rfl
  | n :: ns, h => by
    rw [List.map_cons, sks, sks_strs ns fun x hx => h x (List.mem_cons_of_mem _ hx), sk, h n List.mem_cons_self]
    rfl
theorem dps_strs : ∀ ns : List Str, PyData.depthAll (pys (ns.map D.str)) = 0
  | [] => rfl
  | n :: ns => by rw [List.map_cons, pys, PyData.depthAll, dps_strs ns]; rfl
theorem dp_nil : dp (.lst []) := by show PyData.depth _ ≤ 64; decide
theorem dp_ints (ns : List Int) : dp (.lst (ns.map D.int)) := by
  unfold dp
  rw [py, PyData.depth, dps_ints]
  omega
theorem dp_strs (ns : List Str) : dp (.lst (ns.map D.str)) := by
  unfold dp
  rw [py, PyData.depth, dps_strs]
  omega
theorem map_nil_iff {α β : Type} (f : α → β) (xs : List α) : xs.isEmpty = true ↔ xs.map f = [] := by
  cases xs <;> simp
theorem eg_nilI {ns : List Int} (ha : EG B ta Γ (.lst (ns.map D.int))) (hb : EG B tb Γ (.lst [])) : EG B (tOp (rEqA B.K) ta tb) Γ (.bl ns.isEmpty) :=
  eg_eqK ha hb (by rw [sk]; exact sks_ints ns) rfl (dp_ints ns) dp_nil ⟨fun h => by rw [(map_nil_iff D.int ns).mp h], fun h => (map_nil_iff D.int ns).mpr (D.lst.inj h)⟩
theorem eg_nenilS {ns : List Str} (ha : EG B ta Γ (.lst (ns.map D.str))) (hb : EG B tb Γ (.lst [])) (h : ∀ x ∈ ns, PyData.strOk x = true) : EG B (tOp (rNeA B.K) ta tb) Γ (.bl (!ns.isEmpty)) :=
  eg_neK ha hb (by rw [sk]; exact sks_strs ns h) rfl (dp_strs ns) dp_nil ⟨fun h => by rw [(map_nil_iff D.str ns).mp h], fun h => (map_nil_iff D.str ns).mpr (D.lst.inj h)⟩
end
/-- an ending as that of the whole -/
def rtO {ι : Type} (O : Out → Prop) : OutI ι → Prop
  | .nx _ _ => False
  | .rt d _ => O (.rt d)
  | .bk _ _ => False
  | .ct _ _ => False
section
variable {B : Bs} {Γ Γ' : Gm} {t u : TS}
theorem sg_openE {i : Nat} {O : Out → Prop} (ho : Opens B t Γ i Γ') (h : ∀ p, ¬ B.pp p → SI (B.op p) p (R B) (LJ B p) u (Γ'.set i (some (raw p))) [] (rtO O)) : SG B (tSeq t u) Γ O := sg_openR ho fun p hp => si_mono (h p hp) fun o q => by
  cases o <;> exact q
end
end Tl
end
section
set_option Elab.async false
set_option linter.all false
set_option autoImplicit false
set_option maxRecDepth 100000
/-! The law's own count of comparisons, plainly. -/
namespace Tl
open PySem PySem.Spec PyProof.Rows L2
def hgt (T : Tw) (j : Nat) : Int := ((T[j]?).map (·.2)).getD 0
def spI (T : Tw) (b : Nat) (l : Int) : List Int := ((List.range (T.length - b)).filter fun i => decide (l ≤ hgt T (b + i))).map fun (i : Nat) => ((b + i : Nat) : Int)
theorem nxtA_find (l : Int) : ∀ T : Tw, nxtA l T = (List.range T.length).find? fun i => decide (l ≤ hgt T i)
  | [] => rfl
  | p :: T => by
    unfold nxtA
    rw [List.length_cons, List.range_succ_eq_map, List.find?_cons]
    have e : hgt (p :: T) 0 = p.2 := rfl
    rw [e]
    by_cases h : l ≤ p.2
    · rw [if_pos h, decide_eq_true h]
    · rw [if_neg h, decide_eq_false h, List.find?_map, nxtA_find l T]
      congr 1
theorem hgt_drop (T : Tw) (b i : Nat) : hgt (T.drop b) i = hgt T (b + i) := by
  unfold hgt
  rw [List.getElem?_drop]
theorem spI_head (T : Tw) (b : Nat) (l : Int) : (spI T b l).head? = (nxt T b l).map fun (i : Nat) => (i : Int) := by
  unfold spI nxt
  rw [List.head?_map, List.head?_filter, nxtA_find, List.length_drop, Option.map_map]
  have e : (fun i => decide (l ≤ hgt (T.drop b) i)) = fun i => decide (l ≤ hgt T (b + i)) := by
    funext i
    rw [hgt_drop]
  rw [e]
  congr 1
  funext i
  simp only [Function.comp]
  omega
theorem spI_none {T : Tw} {b : Nat} {l : Int} (h : nxt T b l = none) : spI T b l = [] := by
  have e := spI_head T b l
  rw [h] at e
  exact List.head?_eq_none_iff.mp e
theorem spI_some {T : Tw} {b i : Nat} {l : Int} (h : nxt T b l = some i) : ∃ r, spI T b l = (i : Int) :: r := by
  have e := spI_head T b l
  rw [h] at e
  obtain ⟨r, hr⟩ := List.head?_eq_some_iff.mp e
  exact ⟨r, hr⟩
theorem hgt_at {T : Tw} {j : Nat} {q : Int × Int} (h : T[j]? = some q) : hgt T j = q.2 := by unfold hgt; rw [h]; rfl
/-! what a step adds -/
theorem cwd_end : cwd "end" = false := by decide +kernel
theorem cwd_same : cwd "same" = false := by decide +kernel
theorem cwd_right : cwd "right" = true := by decide +kernel
theorem cwd_found : cwd "found" = true := by decide +kernel
theorem cwd_stop : cwd "stop" = true := by decide +kernel
theorem cwd_look : cwd "look" = true := by decide +kernel
section
variable {T : Tw} {key : Int} {ln el : Bool} {f l b i : Nat} {met : Option Nat}
theorem cn_none (h : nxt T b ((l + 1 : Nat) : Int) = none) : cnt (wkS T key ln el (f + 1) (l + 1) b met) = cnt (wkS T key ln el f l b none) := by
  rw [wkS, h]
  dsimp only
  rw [cnt_cons, cwd_end, if_neg Bool.false_ne_true, Nat.zero_add]
theorem cn_same (h : nxt T b ((l + 1 : Nat) : Int) = some i) (h1 : (decide (met = some i) && ln) = true) : cnt (wkS T key ln el (f + 1) (l + 1) b met) = cnt (wkS T key ln el f l b (some i)) := by
  rw [wkS, h]
  dsimp only
  rw [if_pos h1, cnt_cons, cwd_same, if_neg Bool.false_ne_true, Nat.zero_add]
theorem cn_right (h : nxt T b ((l + 1 : Nat) : Int) = some i) (h1 : (decide (met = some i) && ln) = false) (h2 : keyAt T i < key) : cnt (wkS T key ln el (f + 1) (l + 1) b met) = 1 + cnt (wkS T key ln el f (l + 1) (i + 1) met) := by
  rw [wkS, h]
  dsimp only
  rw [if_neg (by rw [h1]; exact Bool.false_ne_true), if_pos h2, cnt_cons, cwd_right, if_pos rfl]
theorem cn_found (h : nxt T b ((l + 1 : Nat) : Int) = some i) (h1 : (decide (met = some i) && ln) = false) (h2 : keyAt T i = key) (h3 : el = true) : cnt (wkS T key ln el (f + 1) (l + 1) b met) = 1 := by
  rw [wkS, h]
  dsimp only
  rw [if_neg (by rw [h1]; exact Bool.false_ne_true), if_neg (by omega), if_pos (by rw [decide_eq_true h2, h3]; rfl), cnt_cons, cwd_found, if_pos rfl, cnt_nil]
theorem cn_stop (h : nxt T b ((l + 1 : Nat) : Int) = some i) (h1 : (decide (met = some i) && ln) = false) (h2 : key ≤ keyAt T i) (h3 : (decide (keyAt T i = key) && el) = false) : cnt (wkS T key ln el (f + 1) (l + 1) b met) = 1 + cnt (wkS T key ln el f l b (some i)) := by
  rw [wkS, h]
  dsimp only
  rw [if_neg (by rw [h1]; exact Bool.false_ne_true), if_neg (by omega), if_neg (by rw [h3]; exact Bool.false_ne_true), cnt_cons, cwd_stop, if_pos rfl]
theorem cn_zero (hh : ∀ p ∈ T, 1 ≤ p.2) (hb : b ≤ T.length) : cnt (wkS T key ln el (f + 1) 0 b met) = if (!el && decide (b < T.length)) = true then 1 else 0 := by
  rw [wkS]
  by_cases h : b < T.length
  · have e : nxt T b 1 = some b := by
      rw [nxt_step (List.getElem?_eq_getElem h), if_pos (hh _ (List.getElem_mem h))]
    rw [e, decide_eq_true h]
    cases el with
    | true => rfl
    | false =>
      dsimp only
      rw [if_neg Bool.false_ne_true, cnt_cons, cwd_look, if_pos rfl, cnt_nil]
      rfl
  · rw [nxt_end (by omega), decide_eq_false h, Bool.and_false, if_neg Bool.false_ne_true]
    rfl
end
/-! the steps' words -/
def StOk (s : Stp) : Prop := PyData.strOk s.1 = true ∧ s.2 ≠ []
theorem so_look : PyData.strOk "look" = true := by decide +kernel
theorem so_end : PyData.strOk "end" = true := by decide +kernel
theorem so_same : PyData.strOk "same" = true := by decide +kernel
theorem so_right : PyData.strOk "right" = true := by decide +kernel
theorem so_found : PyData.strOk "found" = true := by decide +kernel
theorem so_stop : PyData.strOk "stop" = true := by decide +kernel
theorem wkS_ok (T : Tw) (key : Int) (ln el : Bool) : ∀ (f l b : Nat) (met : Option Nat), ∀ s ∈ wkS T key ln el f l b met, StOk s
  | 0, _, _, _, s, h => absurd h List.not_mem_nil
  | f + 1, 0, b, met, s, h => by
    unfold wkS at h
    split at h
    · exact absurd h List.not_mem_nil
    · split at h
      · exact absurd h List.not_mem_nil
      · rw [List.mem_singleton.mp h]
        exact ⟨(so_look), List.cons_ne_nil _ _⟩
  | f + 1, l + 1, b, met, s, h => by
    unfold wkS at h
    split at h
    · rcases List.mem_cons.mp h with e | h
      · rw [e]; exact ⟨(so_end), List.cons_ne_nil _ _⟩
      · exact wkS_ok T key ln el f l b none s h
    · rename_i i _
      split at h
      · rcases List.mem_cons.mp h with e | h
        · rw [e]; exact ⟨(so_same), List.cons_ne_nil _ _⟩
        · exact wkS_ok T key ln el f l b (some i) s h
      · split at h
        · rcases List.mem_cons.mp h with e | h
          · rw [e]; exact ⟨(so_right), List.cons_ne_nil _ _⟩
          · exact wkS_ok T key ln el f (l + 1) (i + 1) met s h
        · split at h
          · rw [List.mem_singleton.mp h]
            exact ⟨(so_found), List.cons_ne_nil _ _⟩
          · rcases List.mem_cons.mp h with e | h
            · rw [e]; exact ⟨(so_stop), List.cons_ne_nil _ _⟩
            · exact wkS_ok T key ln el f l b (some i) s h
def lastL (l : List Stp) (bg : Int) : Int := match l.getLast? with
  | none => min bg 1
  | some s => if s.1 = "found" then s.2.headD 0 else min bg 1
end Tl
end
section
set_option Elab.async false
set_option linter.all false
set_option maxRecDepth 100000
set_option maxHeartbeats 2000000
set_option autoImplicit false
set_option exponentiation.threshold 10000

/-! What a search costs, told twice. -/
namespace Tl
open PySem PySem.Spec PyProof.Rows L2
local macro_rules | `(tactic| walk_at "ev") => `(tactic| first
  | ((with_reducible refine' eg_var ?k1); (case k1 => exact rfl))
  | with_reducible exact eg_int
  | with_reducible exact eg_str
  | with_reducible exact eg_bl
  | with_reducible exact eg_non
  | ((with_reducible refine' eg_sub ?k1 ?k2); (case k1 => walk_at "ev"); (case k2 => walk_at "ev"))
  | ((with_reducible refine' eg_add ?k1 ?k2); (case k1 => walk_at "ev"); (case k2 => walk_at "ev"))
  | ((with_reducible refine' eg_lt ?k1 ?k2); (case k1 => walk_at "ev"); (case k2 => walk_at "ev"))
  | ((with_reducible refine' eg_le ?k1 ?k2); (case k1 => walk_at "ev"); (case k2 => walk_at "ev"))
  | ((with_reducible refine' eg_gt ?k1 ?k2); (case k1 => walk_at "ev"); (case k2 => walk_at "ev"))
  | ((with_reducible refine' eg_ge ?k1 ?k2); (case k1 => walk_at "ev"); (case k2 => walk_at "ev"))
  | ((with_reducible refine' eg_neg ?k1); (case k1 => walk_at "ev"))
  | ((with_reducible refine' eg_ixT ?k1 ?k2 ?k3); (case k1 => walk_at "ev"); (case k2 => walk_at "ev"); (case k3 => exact rfl))
  | ((with_reducible refine' eg_ixL ?k1 ?k2 ?k3); (case k1 => walk_at "ev"); (case k2 => walk_at "ev"); (case k3 => exact rfl))
  | ((with_reducible refine' eg_tup ?k1 ?k2); (case k1 => walk_at "av"); (case k2 => exact le1000 rfl))
  | ((with_reducible refine' eg_lst ?k1 ?k2); (case k1 => walk_at "av"); (case k2 => exact le1000 rfl))
  | ((with_reducible refine' eg_isN ?k1 ?k2); (case k1 => walk_at "ev"); (case k2 => exact rfl))
  | ((with_reducible refine' eg_notN ?k1 ?k2); (case k1 => walk_at "ev"); (case k2 => exact rfl))
  | ((with_reducible refine' eg_eqI ?k1 ?k2); (case k1 => walk_at "ev"); (case k2 => walk_at "ev"))
  | ((with_reducible refine' eg_eqStr ?k1 ?k2); (case k1 => walk_at "ev"); (case k2 => walk_at "ev"))
  | assumption)
local macro_rules | `(tactic| walk_at "av") => `(tactic| first
  | with_reducible exact ag_nil
  | ((with_reducible refine' ag_cons ?k1 ?k2); (case k1 => walk_at "ev"); (case k2 => walk_at "av")))
local macro_rules | `(tactic| walk_at "tv") => `(tactic| first
  | ((with_reducible refine' tg_test ?k1); (case k1 => walk_at "ev"))
  | ((with_reducible refine' tg_B ?k1); (case k1 => walk_at "ev"))
  | ((with_reducible refine' tg_not ?k1); (case k1 => walk_at "tv")))
local macro_rules | `(tactic| walk_at "nm") => `(tactic| first | dsimp only [cxOf] | skip)

section
variable {B : Bs} {mg : Str → Option Value} {base : Heap}
def prD (l : List Stp) (bg : Int) : D := .tup [.int (((l.map (·.1)).count (Str.ofString "right") : Nat) : Int), .int (bg - lastL l bg), .int ((cnt l : Nat) : Int)]
def S_priced (ds : List D) (e : D) : Prop := ∃ (l : List Stp) (bg : Int), ds = [.lst (l.map stpD), .int bg] ∧ l.length ≤ 10000 ∧ (∀ s ∈ l, StOk s) ∧ e = prD l bg
theorem at_last {α : Type} (xs : List α) (x : α) : atI (xs ++ [x]) (-1) = some x := by
  unfold atI ixN
  rw [List.length_append, List.length_singleton, if_neg (by decide), if_pos (by omega)]
  have e : ((-1 : Int) + ((xs.length + 1 : Nat) : Int)).toNat = xs.length := by omega
  rw [e]
  show (xs ++ [x])[xs.length]? = some x
  rw [List.getElem?_append_right (Nat.le_refl _), Nat.sub_self]
  rfl
theorem ok_priced (T : Txt B.K mg) : FnOk B.P B.w B.K mg base CX0 1 T.priced.f T.priced.d p_priced (PSp B.P B.w B.K S_priced) := by
  refine fn_pure T.priced.F sc_priced (fun ds e h => by obtain ⟨a, b, rfl, _⟩ := h; rfl) fun pp cdv A outer s H E ds e hr hS => ⟨_, (pss_cons (ps_setLc (i := 2) (own := [("step", 5)]) rfl sc_priced.nd rfl rfl (sw_true rfl rfl rfl (by decide +kernel)) (k_list (K := B.K) rfl (pv 0)) (blkOk_by (own := [("step", 5)]) (N := n_priced) (sc := defScope s_priced) (by decide +kernel)) (fun _ _ _ _ _ => (pg_name (i := 5) sc_priced.nd rfl (Or.inl rfl))) (fun _ _ _ _ _ => pts_nil) (fun _ _ _ _ _ => (pe_ix (k_ix (K := B.K) rfl) (pv 5) pe_int (fun _ _ => rfl)))) (pss_cons (ps_set (i := 3) sc_priced.nd rfl (Or.inl rfl) (pe_ifExp (PW.pt (pw_and (pt_cmpR (k_ne (K := B.K) rfl hr.units) (pv 2) (pe_lst pa_nil) (nomark _)) (pw_and1 (pt_cmpR (k_eq (K := B.K) rfl hr.units) (pe_ix (k_ix (K := B.K) rfl) (pv 2) (pe_un un_neg pe_int) (fun _ _ => rfl)) pe_str (nomark _))))) (pe_ix (k_ix (K := B.K) rfl) (pe_ix (k_ix (K := B.K) rfl) (pv 0) (pe_un un_neg pe_int) (fun _ _ => rfl)) pe_int (fun _ _ => rfl)) (pe_callB (call_min2 rfl) (by rfl) T.m_min (by decide +kernel) (pa_cons (pv 1) (pa_cons pe_int pa_nil))))) (pss_cons (ps_setLc (i := 4) (own := [("word", 6)]) rfl sc_priced.nd rfl rfl (sw_true rfl rfl rfl (by decide +kernel)) (k_list (K := B.K) rfl (pv 2)) (blkOk_by (own := [("word", 6)]) (N := n_priced) (sc := defScope s_priced) (by decide +kernel)) (fun _ _ _ _ _ => (pg_name (i := 6) sc_priced.nd rfl (Or.inl rfl))) (fun _ _ _ _ _ => (pts_one (pt_cmpR (k_in (K := B.K) rfl (hu_of hr)) (pv 6) (pe_tupF (pa_cons pe_str (pa_cons pe_str (pa_cons pe_str (pa_cons pe_str pa_nil))))) (by rfl)))) (fun _ _ _ _ _ => (pv 6))) (pss_one (ps_ret (pe_tupF (pa_cons (k_bm (K := B.K) rfl PySem.F.plainAttrs_list PySem.F.slot_list_count PySem.F.type_list_count (mt_lcountS (K := B.K) rfl) (pv 2) (pa_cons pe_str pa_nil)) (pa_cons (pe_op op_sub (pv 1) (pv 3)) (pa_cons (pe_callB (k_len (K := B.K) rfl) (by rfl) T.m_len (by decide +kernel) (pa_cons (pv 4) pa_nil)) pa_nil))))))))), ?_⟩
  obtain ⟨l, bg, rfl, hl, hw, rfl⟩ := hS
  refine sg_ctx [some (.lst (l.map stpD)), some (.int bg), none, none, none, none, none] rfl ?_
  refine sg_seq (sg_asg (eg_is (e := .lst ((l.map (·.1)).map D.str)) (eg_lcAll (xs := l) (ee := stpD) (js := [5]) (fun s => .str s.1) (wg_list (by walk_at "ev")) (by decide) (by omega) fun s hs => ⟨_, gg_name, eg_ixT (i := 0) (ds := .str s.1 :: s.2.map D.int) (by walk_at "ev") (by walk_at "ev") (at_nat (i := 0) rfl), rfl⟩) (by rw [List.map_map]; rfl)) ?_)
  have hso : ∀ x ∈ l.map (·.1), PyData.strOk x = true := by
    intro x hx
    obtain ⟨s, hs, rfl⟩ := List.mem_map.mp hx
    exact (hw s hs).1
  refine sg_seq (sg_asg (d := .int (lastL l bg)) ?_ ?_)
  · rcases List.eq_nil_or_concat l with e | ⟨l', s, e⟩
    · subst e
      refine eg_if (tg_andF (a := false) (tg_test (eg_nenilS (ns := []) (by walk_at "ev") (by walk_at "ev") fun x hx => absurd hx List.not_mem_nil)) fun h => absurd h Bool.false_ne_true) (fun h => absurd h Bool.false_ne_true) fun _ => eg_bi (by walk_at "av") cg_min2
    · rw [List.concat_eq_append] at e
      have h1 : atI (l.map stpD) (-1) = some (stpD s) := by rw [e, List.map_append]; exact at_last _ _
      have h2 : atI ((l.map (·.1)).map D.str) (-1) = some (.str s.1) := by rw [e, List.map_append, List.map_append]; exact at_last _ _
      have h3 : (l.map (·.1)).isEmpty = false := by rw [e]; simp
      have h4 : lastL l bg = if s.1 = "found" then s.2.headD 0 else min bg 1 := by unfold lastL; rw [e, List.getLast?_concat]
      refine eg_if (tg_and (tg_is (tg_test (eg_nenilS (by walk_at "ev") (by walk_at "ev") hso)) (c := true) (by rw [h3]; rfl)) fun _ => tg_test (eg_eqStr (eg_ixL (by walk_at "ev") (eg_neg eg_int) h2) (by walk_at "ev"))) (fun h => ?_) fun h => ?_
      · rw [Bool.true_and] at h
        rw [h4, if_pos (of_decide_eq_true h)]
        obtain ⟨_, hn⟩ := hw s (by rw [e]; exact List.mem_append_right _ List.mem_cons_self)
        rcases hs2 : s.2 with _ | ⟨v, r⟩
        · exact absurd hs2 hn
        · refine eg_ixT (ds := .str s.1 :: s.2.map D.int) (eg_ixL (by walk_at "ev") (eg_neg eg_int) h1) eg_int ?_
          rw [hs2]
          exact at_nat (i := 1) rfl
      · rw [Bool.true_and] at h
        rw [h4, if_neg (of_decide_eq_false h)]
        exact eg_bi (by walk_at "av") cg_min2
  refine sg_seq (sg_asg (eg_lc (xs := l.map (·.1)) (ee := D.str) (js := [6]) cwd D.str (wg_list (by walk_at "ev")) (by decide) (by rw [List.length_map]; omega) fun x hx => ⟨_, gg_name, tg_test (eg_inT (x := .str x) (by walk_at "ev") (by walk_at "ev") rfl rfl), fun _ => ⟨by walk_at "ev", rfl⟩⟩) ?_)
  refine sg_ret (eg_tup (ag_cons (eg_count (ns := l.map (·.1)) (by walk_at "ev") (by walk_at "av")) (ag_cons (by walk_at "ev") (ag_cons (eg_bi (by walk_at "av") cg_lenL) ag_nil))) (le1000 rfl)) ?_
  show D.tup _ = prD l bg
  unfold prD cnt
  rw [List.length_map, List.filter_map, List.length_map]
  rfl
def costD (T : Tw) (key : Int) (m : Str) : D := prD (wkAll T key (lean m) (early m)) (hi T)
theorem costD_at (T : Tw) (key : Int) (m : Str) : ∃ a b, costD T key m = .tup [a, b, .int (cst T key (lean m) (early m) : Nat)] := ⟨_, _, rfl⟩
def S_cost_in (ds : List D) (e : D) : Prop := ∃ (T : Tw) (key : Int) (m : Str), ds = [tw T, .int key, .str m] ∧ TwOk T ∧ hi T ≤ 1000 ∧ e = costD T key m
theorem ok_cost_in (T : Txt B.K mg) : FnOk B.P B.w B.K mg base CX0 3 T.cost_in.f T.cost_in.d p_cost_in (PSp B.P B.w B.K S_cost_in) := by
  have G_highest := ok_highest (base := base) T
  have G_walked := ok_walked (base := base) T
  have G_priced := ok_priced (base := base) T
  refine fn_pure T.cost_in.F sc_cost_in (fun ds e h => by obtain ⟨a, b, c, rfl, _⟩ := h; rfl) fun pp cdv A outer s H E ds e hr hS => ⟨_, (pss_one (ps_ret (pe_call G_priced (hr.mono (by decide)) (by rfl) T.priced.g T.priced.F.kp T.priced.b .nil pass0 (pa_cons (pe_call G_walked (hr.mono (by decide)) (by rfl) T.walked.g T.walked.F.kp T.walked.b .nil pass0 (pa_cons (pv 0) (pa_cons (pv 1) (pa_cons (pv 2) (pa_cons (pe_call G_highest (hr.mono (by decide)) (by rfl) T.highest.g T.highest.F.kp T.highest.b .nil pass0 (pa_cons (pv 0) pa_nil)) pa_nil))))) (pa_cons (pe_call G_highest (hr.mono (by decide)) (by rfl) T.highest.g T.highest.F.kp T.highest.b .nil pass0 (pa_cons (pv 0) pa_nil)) pa_nil))))), ?_⟩
  obtain ⟨Tv, key, m, rfl, hT, hh, rfl⟩ := hS
  refine sg_ctx [some (tw Tv), some (.int key), some (.str m)] rfl ?_
  refine sg_ret (eg_call (ag_cons (eg_call (ag_cons (by walk_at "ev") (ag_cons (by walk_at "ev") (ag_cons (by walk_at "ev") (ag_cons (eg_call (by walk_at "av") ⟨Tv, rfl, hT, rfl⟩) ag_nil)))) ⟨Tv, key, m, rfl, hT.2.2, hh, rfl⟩) (ag_cons (eg_call (by walk_at "av") ⟨Tv, rfl, hT, rfl⟩) ag_nil)) ⟨wkAll Tv key (lean m) (early m), hi Tv, rfl, ?_, fun s hs => wkS_ok _ _ _ _ _ _ _ _ s hs, rfl⟩) rfl
  have h1 := wkS_len Tv key (lean m) (early m) ((hi Tv).toNat + Tv.length + 1) (hi Tv).toNat 0 none
  have h2 := hT.2.2
  unfold wkAll
  omega
def S_lcompares (ds : List D) (e : D) : Prop := ∃ (T : Tw) (key : Int) (m : Str), ds = [tw T, .int key, .str m] ∧ TwOk T ∧ hi T ≤ 1000 ∧ ManOk m ∧ e = .int (cst T key (lean m) (early m) : Nat)
theorem man_plain {m : Str} (h : ManOk m) : inV (.str m) [.str "plain", .str "lean"] = !early m := by
  unfold ManOk mans at h
  have h4 : m = "plain" ∨ m = "lean" ∨ m = "early" ∨ m = "sharp" := by
    simp only [inV, List.any_cons, List.any_nil, Bool.or_eq_true, Bool.or_false, eqV, beq_iff_eq] at h
    rcases h with h | h | h | h
    · exact .inl h.symm
    · exact .inr (.inl h.symm)
    · exact .inr (.inr (.inl h.symm))
    · exact .inr (.inr (.inr h.symm))
  rcases h4 with rfl | rfl | rfl | rfl <;> decide +kernel
theorem ok_law_compares (T : Txt B.K mg) : FnOk B.P B.w B.K mg base CX0 1 T.law_compares.f T.law_compares.d p_law_compares (PSp B.P B.w B.K S_lcompares) := by
  refine fn_pure T.law_compares.F sc_law_compares (fun ds e h => by obtain ⟨a, b, c, rfl, _⟩ := h; rfl) fun pp cdv A outer s H E ds e hr hS => ⟨_, (pss_cons (ps_asg (pe_tupF (pa_cons pe_int (pa_cons (pe_un un_neg pe_int) (pa_cons pe_non pa_nil)))) (k_pg (K := B.K) (n := 3) rfl rfl (pgs_cons (pg_name (i := 3) sc_law_compares.nd rfl (Or.inl rfl)) (pgs_cons (pg_name (i := 4) sc_law_compares.nd rfl (Or.inl rfl)) (pgs_cons (pg_name (i := 5) sc_law_compares.nd rfl (Or.inl rfl)) pgs_nil))))) (pss_cons (ps_for PassesOwn.never rfl (pi_range3 (by rfl) T.m_range (pa_cons (pe_callB (k_max (K := B.K) rfl rfl) (by rfl) T.m_max (by decide +kernel) (pa_cons (pe_op (k_add (K := B.K) rfl) (pe_lst (pa_cons pe_int pa_nil)) (pe_lc (own := [("_law_name", 9), ("_law_height", 10)]) rfl sc_law_compares.nd (k_tup (K := B.K) rfl (pv 0)) (blkOk_by (own := [("_law_name", 9), ("_law_height", 10)]) (N := n_law_compares) (sc := defScope s_law_compares) (by decide +kernel)) (fun _ _ _ _ _ => (k_pg (K := B.K) (n := 2) rfl rfl (pgs_cons (pg_name (i := 9) sc_law_compares.nd rfl (Or.inl rfl)) (pgs_cons (pg_name (i := 10) sc_law_compares.nd rfl (Or.inl rfl)) pgs_nil)))) (fun _ _ _ _ _ => pts_nil) (fun _ _ _ _ _ => (pv 10)))) pa_nil)) (pa_cons pe_int (pa_cons (pe_un un_neg pe_int) pa_nil)))) (pg_name (i := 6) sc_law_compares.nd rfl (Or.inr rfl)) (pss_one (ps_for PassesOwn.never rfl (pi_range1 (by rfl) T.m_range (pa_cons (pe_op (k_add (K := B.K) rfl) (pe_callB (k_len (K := B.K) rfl) (by rfl) T.m_len (by decide +kernel) (pa_cons (pv 0) pa_nil)) pe_int) pa_nil)) (pg_name (i := 7) sc_law_compares.nd rfl (Or.inl rfl)) (pss_cons (ps_setLc (i := 8) (own := [("_law_spot", 11)]) rfl sc_law_compares.nd rfl rfl (sw_true rfl rfl rfl (by decide +kernel)) (pi_range2 (by rfl) T.m_range (pa_cons (pe_op (k_add (K := B.K) rfl) (pv 4) pe_int) (pa_cons (pe_callB (k_len (K := B.K) rfl) (by rfl) T.m_len (by decide +kernel) (pa_cons (pv 0) pa_nil)) pa_nil))) (blkOk_by (own := [("_law_spot", 11)]) (N := n_law_compares) (sc := defScope s_law_compares) (by decide +kernel)) (fun _ _ _ _ _ => (pg_name (i := 11) sc_law_compares.nd rfl (Or.inl rfl))) (fun _ _ _ _ _ => (pts_one (pt_cmpR op_ge (pe_ix (k_ix (K := B.K) rfl) (pe_ix (k_ix (K := B.K) rfl) (pv 0) (pv 11) (fun _ _ => rfl)) pe_int (fun _ _ => rfl)) (pv 6) (nomark _)))) (fun _ _ _ _ _ => (pv 11))) (pss_cons (ps_if (PW.pt (pw_or (pt_cmpR (k_eq (K := B.K) rfl hr.units) (pv 8) (pe_lst pa_nil) (nomark _)) (pw_or1 (PW.pt (pw_and (pt_cmpR (k_in (K := B.K) rfl (hu_of hr)) (pv 2) (pe_tupF (pa_cons pe_str (pa_cons pe_str pa_nil))) (by rfl)) (pw_and1 (pt_cmpR (k_eq (K := B.K) rfl hr.units) (pe_ix (k_ix (K := B.K) rfl) (pv 8) pe_int (fun _ _ => rfl)) (pv 5) (nomark _)))))))) (pss_cons (ps_set (i := 5) sc_law_compares.nd rfl (Or.inl rfl) (pe_ifExp (pt_cmpR (k_eq (K := B.K) rfl hr.units) (pv 8) (pe_lst pa_nil) (nomark _)) pe_non (pe_ix (k_ix (K := B.K) rfl) (pv 8) pe_int (fun _ _ => rfl)))) (pss_one ps_break)) pss_nil) (pss_cons (ps_set (i := 3) sc_law_compares.nd rfl (Or.inl rfl) (pe_op (k_add (K := B.K) rfl) (pv 3) pe_int)) (pss_cons (ps_if (PW.pt (pw_and (pt_cmpR (k_eq (K := B.K) rfl hr.units) (pe_ix (k_ix (K := B.K) rfl) (pe_ix (k_ix (K := B.K) rfl) (pv 0) (pe_ix (k_ix (K := B.K) rfl) (pv 8) pe_int (fun _ _ => rfl)) (fun _ _ => rfl)) pe_int (fun _ _ => rfl)) (pv 1) (nomark _)) (pw_and1 (pt_cmpR (k_in (K := B.K) rfl (hu_of hr)) (pv 2) (pe_tupF (pa_cons pe_str (pa_cons pe_str pa_nil))) (by rfl))))) (pss_one (ps_ret (pv 3))) pss_nil) (pss_cons (ps_if (pt_cmpR op_ge (pe_ix (k_ix (K := B.K) rfl) (pe_ix (k_ix (K := B.K) rfl) (pv 0) (pe_ix (k_ix (K := B.K) rfl) (pv 8) pe_int (fun _ _ => rfl)) (fun _ _ => rfl)) pe_int (fun _ _ => rfl)) (pv 1) (nomark _)) (pss_cons (ps_set (i := 5) sc_law_compares.nd rfl (Or.inl rfl) (pe_ix (k_ix (K := B.K) rfl) (pv 8) pe_int (fun _ _ => rfl))) (pss_one ps_break)) pss_nil) (pss_one (ps_set (i := 4) sc_law_compares.nd rfl (Or.inl rfl) (pe_ix (k_ix (K := B.K) rfl) (pv 8) pe_int (fun _ _ => rfl)))))))))))) (pss_one (ps_ret (pe_op (k_add (K := B.K) rfl) (pv 3) (pe_callTy call_int1 (by rfl) T.m_int (by decide +kernel) (pa_cons (pe_and (pe_cmpR (k_in (K := B.K) rfl (hu_of hr)) (pv 2) (pe_tupF (pa_cons pe_str (pa_cons pe_str pa_nil))) (by rfl)) (pe_one (pe_cmpR op_lt (pe_op (k_add (K := B.K) rfl) (pv 4) pe_int) (pe_callB (k_len (K := B.K) rfl) (by rfl) T.m_len (by decide +kernel) (pa_cons (pv 0) pa_nil)) (nomark _)))) pa_nil))))))), ?_⟩
  obtain ⟨Tv, key, m, rfl, hT, hh, hm, rfl⟩ := hS
  have h0 := hi_nonneg Tv
  have hlen := hT.2.2
  refine sg_ctx [some (tw Tv), some (.int key), some (.str m), none, none, none, none, none, none, none, none, none] rfl ?_
  refine sg_seq (sg_asgG (d := .tup [.int 0, .int (-1), .non]) (eg_tup (ag_cons eg_int (ag_cons (eg_neg eg_int) (ag_cons eg_non ag_nil))) (le1000 rfl)) (gg_tup (ggs_cons gg_name (ggs_cons gg_name (ggs_cons gg_name ggs_nil))) rfl) ?_)
  refine sg_seq (sg_for (wg_range3 (m := hi Tv) (n := 0) (c := -1) (k := (hi Tv - 0).toNat) (ag_cons (eg_bi (ag_cons (eg_is (e := .lst ((0 :: Tv.map (·.2)).map D.int)) (eg_cat (ds := [.int 0]) (eg_lst (ag_cons eg_int ag_nil) (le1000 rfl)) (eg_lcAll (xs := Tv) (ee := pr) (js := [9] ++ ([10] ++ [])) (fun p => .int p.2) (wg_tup (by walk_at "ev")) (by decide) (by omega) fun p hp => ⟨_, gg_2, by walk_at "ev", rfl⟩) ?_) ?_) ag_nil) (cg_max (by simp) (hi_list0 hT.2.1).1 (hi_list0 hT.2.1).2)) (ag_cons eg_int (ag_cons (eg_neg eg_int) ag_nil))) (RgC.neg (by omega) (by omega) (by omega) (by omega)))
    (fun j Γ => ∃ (fd b f : Nat) (met : Option Nat) (x1 x2 x3 : Option D), Γ = [some (tw Tv), some (.int key), some (.str m), some (.int (fd : Nat)), some (.int ((b : Int) - 1)), some (oD met), x1, x2, x3, none, none, none] ∧ fd + cnt (wkS Tv key (lean m) (early m) f ((hi Tv).toNat - j) b met) = cst Tv key (lean m) (early m) ∧ b ≤ Tv.length ∧ ((hi Tv).toNat - j) + (Tv.length - b) < f)
    ⟨0, 0, (hi Tv).toNat + Tv.length + 1, none, none, none, none, rfl, Nat.zero_add _, by omega, by omega⟩ ?_ ?_)
  · rw [List.length_map, sizeLine_eq]
    show 1 + Tv.length ≤ _
    omega
  · show D.lst _ = D.lst _
    rw [List.map_cons, List.map_map]
    rfl
  · rintro j d Γ hd ⟨fd, b, f, met, x1, x2, x3, rfl, hc, hb, hf⟩
    have hj : j < (hi Tv - 0).toNat := by
      have := (List.getElem?_eq_some_iff.mp hd).1
      rw [rngC_length] at this
      exact this
    obtain ⟨l, hl⟩ : ∃ l, (hi Tv).toNat - j = l + 1 := ⟨(hi Tv).toNat - j - 1, by omega⟩
    have e := rngC_get hd
    have e2 : hi Tv + (j : Int) * -1 = ((l + 1 : Nat) : Int) := by omega
    rw [e2] at e
    subst e
    rw [hl] at hc hf
    have hl2 : (hi Tv).toNat - (j + 1) = l := by omega
    refine ⟨_, _, gg_name, ?_⟩
    refine sg_for (wg_range1 (n := ((Tv.map pr).length : Int) + 1) (ag_cons (eg_add (eg_bi (by walk_at "av") cg_lenT) eg_int) ag_nil) (by omega) (by rw [List.length_map]; omega))
      (fun t Γ => ∃ (fd b f : Nat) (met : Option Nat) (x2 x3 : Option D), Γ = [some (tw Tv), some (.int key), some (.str m), some (.int (fd : Nat)), some (.int ((b : Int) - 1)), some (oD met), some (.int ((l + 1 : Nat) : Int)), x2, x3, none, none, none] ∧ fd + cnt (wkS Tv key (lean m) (early m) f (l + 1) b met) = cst Tv key (lean m) (early m) ∧ b ≤ Tv.length ∧ t ≤ b ∧ (l + 1) + (Tv.length - b) < f)
      ⟨fd, b, f, met, x2, x3, rfl, hc, hb, Nat.zero_le b, hf⟩ ?_ ?_
    · clear hd hc hb hf
      rintro t d Γ hd ⟨fd, b, f, met, x2, x3, rfl, hc, hb, ht, hf⟩
      refine ⟨_, _, gg_name, ?_⟩
      obtain ⟨f, rfl⟩ : ∃ k, f = k + 1 := ⟨f - 1, by omega⟩
      have hw := wg_range2 (B := B.at pp) (Γ := (([some (tw Tv), some (.int key), some (.str m), some (.int (fd : Nat)), some (.int ((b : Int) - 1)), some (oD met), some (.int ((l + 1 : Nat) : Int)), x2, x3, none, none, none] : Gm).set 7 (some d))) (tA := tCons (tOp (rAddA B.K) (tVar 4) (tC (.int 1))) (tCons (tCB (rLenS B.K) (tCons (tVar 0) tNil)) tNil)) (m := (b : Int) - 1 + 1) (n := ((Tv.map pr).length : Int)) (ag_cons (eg_add (eg_var rfl) eg_int) (ag_cons (eg_bi (ag_cons (eg_var rfl) ag_nil) cg_lenT) ag_nil)) (by omega) (by omega) (by omega) (by rw [List.length_map]; omega)
      have hn : (((Tv.map pr).length : Int) - ((b : Int) - 1 + 1)).toNat = Tv.length - b := by rw [List.length_map]; omega
      rw [hn] at hw
      refine sg_seq (sg_asg (eg_is (e := .lst ((spI Tv b ((l + 1 : Nat) : Int)).map D.int)) (eg_lc (xs := List.range (Tv.length - b)) (ee := fun (i : Nat) => .int ((b : Int) - 1 + 1 + i)) (js := [11]) (fun i => decide (((l + 1 : Nat) : Int) ≤ hgt Tv (b + i))) (fun (i : Nat) => .int ((b + i : Nat) : Int)) hw (by decide) (by rw [List.length_range]; omega) fun i hi' => ?_) ?_) ?_)
      · have hi2 : b + i < Tv.length := by have := List.mem_range.mp hi'; omega
        have ev : (b : Int) - 1 + 1 + i = ((b + i : Nat) : Int) := by omega
        refine ⟨_, gg_name, tg_is (tg_test (eg_ge (i := Tv[b + i].2) (eg_ixT (ds := [.int Tv[b + i].1, .int Tv[b + i].2]) (eg_ixT (i := ((b + i : Nat) : Int)) (by walk_at "ev") (eg_is (eg_var rfl) (congrArg D.int ev)) (at_nat (by rw [List.getElem?_map, List.getElem?_eq_getElem hi2]; rfl))) eg_int rfl) (by walk_at "ev"))) ?_, fun _ => ⟨eg_is (eg_var rfl) (congrArg D.int ev), rfl⟩⟩
        rw [hgt_at (List.getElem?_eq_getElem hi2)]
      · unfold spI
        rw [List.map_map]
        rfl
      rcases hx : nxt Tv b ((l + 1 : Nat) : Int) with _ | i
      · rw [spI_none hx]
        rw [cn_none hx] at hc
        refine sg_seq (sg_if (tg_or (a := true) (b := false) (tg_test (eg_nilI (ns := []) (by walk_at "ev") (by walk_at "ev"))) (fun h => absurd h (by decide))) (fun _ => ?_) (fun h => absurd h (by decide)))
        refine sg_seq (sg_asg (d := .non) (eg_if (b := true) (tg_test (eg_nilI (ns := []) (by walk_at "ev") (by walk_at "ev"))) (fun _ => by walk_at "ev") (fun h => absurd h (by decide))) ?_)
        refine sg_break ⟨fd, b, f, none, _, _, _, rfl, by rw [hl2]; exact hc, hb, by omega⟩
      · obtain ⟨r, hr2⟩ := spI_some hx
        rw [hr2]
        obtain ⟨hbi, q, hq, _⟩ := nxt_some rfl hx
        have hi' : i < Tv.length := (List.getElem?_eq_some_iff.mp hq).1
        have at0 : atI (((i : Int) :: r).map D.int) 0 = some (.int (i : Nat)) := at_nat (i := 0) rfl
        refine sg_seq (sg_if (tg_or (a := false) (tg_test (eg_nilI (ns := (i : Int) :: r) (by walk_at "ev") (by walk_at "ev"))) (fun _ => tg_and (tg_test (eg_inT (x := .str m) (by walk_at "ev") (by walk_at "ev") rfl rfl)) fun _ => tg_test (eg_same (i := i) (met := met) (eg_ixL (by walk_at "ev") eg_int at0) (by walk_at "ev")))) (fun h => ?_) (fun h => sg_next ?_))
        · have h2 : (decide (met = some i) && lean m) = true := by rw [Bool.and_comm]; exact h
          rw [cn_same hx h2] at hc
          refine sg_seq (sg_asg (d := oD (some i)) (eg_if (b := false) (tg_test (eg_nilI (ns := (i : Int) :: r) (by walk_at "ev") (by walk_at "ev"))) (fun h => absurd h (by decide)) (fun _ => eg_ixL (by walk_at "ev") eg_int at0)) ?_)
          refine sg_break ⟨fd, b, f, some i, _, _, _, rfl, by rw [hl2]; exact hc, hb, by omega⟩
        · have h2 : (decide (met = some i) && lean m) = false := by rw [Bool.and_comm]; exact h
          refine sg_seq (sg_asg (d := .int ((fd + 1 : Nat) : Int)) (eg_is (eg_add (by walk_at "ev") eg_int) (congrArg D.int (by omega))) ?_)
          refine sg_seq (sg_if (tg_and (tg_test (eg_eqI (eg_key (i := i) (by walk_at "ev") (eg_ixL (by walk_at "ev") eg_int at0) hq) (by walk_at "ev"))) fun _ => tg_test (eg_inT (x := .str m) (by walk_at "ev") (by walk_at "ev") rfl rfl)) (fun h => ?_) (fun h => sg_next ?_))
          · obtain ⟨g1, g2⟩ := Bool.and_eq_true _ _ ▸ h
            rw [cn_found hx h2 (of_decide_eq_true g1) (show early m = true from g2)] at hc
            refine sg_ret (by walk_at "ev") ?_
            show D.int _ = D.int _
            rw [hc]
          · refine sg_seq (sg_if (tg_test (eg_ge (eg_key (i := i) (by walk_at "ev") (eg_ixL (by walk_at "ev") eg_int at0) hq) (by walk_at "ev"))) (fun h' => ?_) (fun h' => sg_next ?_))
            · rw [cn_stop hx h2 (of_decide_eq_true h') (show (decide (keyAt Tv i = key) && early m) = false from h)] at hc
              refine sg_seq (sg_asg (d := oD (some i)) (eg_ixL (by walk_at "ev") eg_int at0) ?_)
              refine sg_break ⟨fd + 1, b, f, some i, _, _, _, rfl, by rw [hl2]; omega, hb, by omega⟩
            · have h3 := of_decide_eq_false h'
              rw [cn_right hx h2 (by omega)] at hc
              have e3 : ((i + 1 : Nat) : Int) - 1 = (i : Nat) := by omega
              refine sg_asg (d := .int (((i + 1 : Nat) : Int) - 1)) (eg_is (eg_ixL (by walk_at "ev") eg_int at0) (congrArg D.int e3.symm)) ?_
              exact ⟨fd + 1, i + 1, f, met, _, _, rfl, by omega, by omega, by omega, by omega⟩
    · rintro Γ ⟨fd, b, f, met, x2, x3, rfl, hc, hb, ht, hf⟩
      exfalso
      rw [rng_length, List.length_map] at ht
      omega
  · rintro Γ ⟨fd, b, f, met, x1, x2, x3, rfl, hc, hb, hf⟩
    have e : (hi Tv).toNat - (rngC (hi Tv) (-1) (hi Tv - 0).toNat).length = 0 := by rw [rngC_length]; omega
    rw [e] at hc hf
    obtain ⟨f, rfl⟩ : ∃ k, f = k + 1 := ⟨f - 1, by omega⟩
    rw [cn_zero hT.2.1 hb] at hc
    refine sg_ret (eg_add (by walk_at "ev") (eg_bi (ag_cons (eg_andV (eg_inT (x := .str m) (by walk_at "ev") (by walk_at "ev") rfl rfl) fun _ => eg_lt (by walk_at "ev") (eg_bi (by walk_at "av") cg_lenT)) ag_nil) cg_intB)) ?_
    show D.int _ = D.int _
    rw [man_plain hm, ← hc, List.length_map]
    have e4 : decide ((b : Int) - 1 + 1 < (Tv.length : Int)) = decide (b < Tv.length) := by
      by_cases z : b < Tv.length
      · rw [decide_eq_true z, decide_eq_true (by omega)]
      · rw [decide_eq_false z, decide_eq_false (by omega)]
    rw [e4]
    congr 1
    split <;> omega
end
end Tl
end
section
set_option Elab.async false
set_option linter.all false
set_option maxRecDepth 100000
set_option maxHeartbeats 2000000
set_option autoImplicit false
/-! What is read of an object that is being changed; a dict of one's own with int keys. -/
namespace Tl
open PySem PySem.Spec PyProof.Rows L2
section
variable (B : Bs) {ι : Type} (J : ι → Hp → Prop)
def EJ (te : TE) (Γ : Gm) (m : ι) (d : D) : Prop := ∀ (σ : L2.St) (H : Hp), Rep B H σ Γ → J m H → ∀ Q : VK, (∀ v H', Same H H' → R B H' v d → Q v H') → te σ H Q
def TJ (tt : TT) (Γ : Gm) (m : ι) (b : Bool) : Prop := ∀ (σ : L2.St) (H : Hp), Rep B H σ Γ → J m H → ∀ Q : Bool → Hp → Prop, (∀ H', Same H H' → Q b H') → tt σ H Q
def AJ (ta : TA) (Γ : Gm) (m : ι) (ds : List D) : Prop := ∀ (σ : L2.St) (H : Hp), Rep B H σ Γ → J m H → ∀ Q : List V → Hp → Prop, (∀ vs H', Same H H' → RA B H' vs ds → Q vs H') → ta σ H Q
end
section
variable {B : Bs} {p : Addr} {Rr : Hp → V → D → Prop} {ι : Type} {J : ι → Hp → Prop} {Γ : Gm} {m : ι} {t u : TS} {O : OutI ι → Prop} {te tb : TE} {ta : TA} {d e f : D}
theorem ej_of (h : EG B te Γ d) : EJ B J te Γ m d := fun σ H r _ Q q => h σ H r Q q
theorem aj_of {ds : List D} (h : AG B ta Γ ds) : AJ B J ta Γ m ds := fun σ H r _ Q q => h σ H r Q q
theorem tj_of {tt : TT} {b : Bool} (h : TGd B tt Γ b) : TJ B J tt Γ m b := fun σ H r _ Q q => h σ H r Q q
theorem ej_is (h : EJ B J te Γ m d) (e' : d = e) : EJ B J te Γ m e := e' ▸ h
theorem tj_is {tt : TT} {b c : Bool} (h : TJ B J tt Γ m b) (e' : b = c) : TJ B J tt Γ m c := e' ▸ h
theorem aj_nil : AJ B J tNil Γ m [] := aj_of ag_nil
theorem aj_cons (hJ : Stb J) {ds : List D} (ha : EJ B J te Γ m d) (hr : AJ B J ta Γ m ds) : AJ B J (tCons te ta) Γ m (d :: ds) := fun σ H w j Q q =>
  ha σ H w j _ fun x H1 e1 r1 => hr σ H1 (w.ext e1) (hJ _ _ _ e1 j) _ fun xs H2 e2 r2 => q _ H2 (e1.trans e2) (.cons (r1.ext e2) r2)
theorem ej_op (hJ : Stb J) {r : R2} (ha : EJ B J te Γ m d) (hb : EJ B J tb Γ m e) (hr : OG B r d e f) : EJ B J (tOp r te tb) Γ m f := fun σ H w j Q q =>
  ha σ H w j _ fun x H1 e1 r1 => hb σ H1 (w.ext e1) (hJ _ _ _ e1 j) _ fun y H2 e2 r2 => hr H2 x y ((w.ext e1).ext e2).pp (r1.ext e2) r2 Q fun z H3 e3 r3 => q z H3 (e1.trans (e2.trans e3)) r3
theorem ej_call {S : List D → D → Prop} {E : XK} {ds : List D} (h : AJ B J ta Γ m ds) (hs : S ds d) : EJ B J (tCall (PSp B.P B.w B.K S) [] E ta) Γ m d := fun σ H w j Q q =>
  h σ H w j _ fun vs H1 e1 r1 => ⟨B.pp, ds, d, (w.ext e1).pp, by rw [List.append_nil]; exact r1, hs, fun v H2 e2 r2 => q v H2 (e1.trans e2) r2⟩
theorem ej_bi {r : List V → Hp → VK → Prop} {ds : List D} (h : AJ B J ta Γ m ds) (hr : CG B r ds f) : EJ B J (tCB r ta) Γ m f := fun σ H w j Q q =>
  h σ H w j _ fun vs H1 e1 r1 => hr H1 vs (w.ext e1).pp r1 Q fun v H2 e2 r2 => q v H2 (e1.trans e2) r2
theorem tj_test {b : Bool} (h : EJ B J te Γ m (.bl b)) : TJ B J (tTest te) Γ m b := fun σ H w j Q q => h σ H w j _ fun v H1 e1 r1 => ⟨b, r1.bl_inv, q H1 e1⟩
theorem tj_not {tt : TT} {b : Bool} (h : TJ B J tt Γ m b) : TJ B J (tNot tt) Γ m (!b) := fun σ H w j Q q => h σ H w j _ q
theorem tj_or (hJ : Stb J) {tt tu : TT} {a b : Bool} (h1 : TJ B J tt Γ m a) (h2 : a = false → TJ B J tu Γ m b) : TJ B J (tOr tt tu) Γ m (a || b) := fun σ H w j Q q => h1 σ H w j _ fun H1 e1 => by
  cases a with
  | true => exact q H1 e1
  | false => exact h2 rfl σ H1 (w.ext e1) (hJ _ _ _ e1 j) Q fun H2 e2 => q H2 (e1.trans e2)
theorem si_ifJ (hJ : Stb J) {tt : TT} {k : Bool} (h : TJ B J tt Γ m k) (h1 : k = true → SI B p Rr J t Γ m O) (h2 : k = false → SI B p Rr J u Γ m O) : SI B p Rr J (tIfS tt t u) Γ m O := fun σ H E r j n q b c => h σ H r j _ fun H1 e1 => by
  have j1 := hJ m H H1 e1 j
  cases k with
  | true => exact h1 rfl σ H1 E (r.ext e1) j1 (fun σ' H' Γ' m' e j' r' o => n σ' H' Γ' m' ((Sp.of e1).trans e) j' r' o) (fun v H' d m' e j' r' o => q v H' d m' ((Sp.of e1).trans e) j' r' o) (fun σ' H' Γ' m' e j' r' o => b σ' H' Γ' m' ((Sp.of e1).trans e) j' r' o) fun σ' H' Γ' m' e j' r' o => c σ' H' Γ' m' ((Sp.of e1).trans e) j' r' o
  | false => exact h2 rfl σ H1 E (r.ext e1) j1 (fun σ' H' Γ' m' e j' r' o => n σ' H' Γ' m' ((Sp.of e1).trans e) j' r' o) (fun v H' d m' e j' r' o => q v H' d m' ((Sp.of e1).trans e) j' r' o) (fun σ' H' Γ' m' e j' r' o => b σ' H' Γ' m' ((Sp.of e1).trans e) j' r' o) fun σ' H' Γ' m' e j' r' o => c σ' H' Γ' m' ((Sp.of e1).trans e) j' r' o
theorem ei_J (hJ : Stb J) (h : EJ B J te Γ m d) {O : D → ι → Prop} (o : O d m) : EI B p J te Γ m O := fun σ H r j Q q => h σ H r j Q fun v H' e r' => q v H' d m (.of e) (hJ m H H' e j) r' o
theorem si_asgJ (hJ : Stb J) (hp : B.pp p) {i : Nat} (h : EJ B J te Γ m d) (o : O (.nx (Γ.set i (some d)) m)) : SI B p Rr J (tAsg te (gName i)) Γ m O := si_asg hp (ei_J hJ h o)
theorem si_retJ (hJ : Stb J) (hR : ∀ H v d, R B H v d → Rr H v d) (h : EJ B J te Γ m d) (o : O (.rt d m)) : SI B p Rr J (tRet te) Γ m O := si_ret hR (ei_J hJ h o)
end
/-- an ending as that of the whole, where the end of the text counts too -/
def endO {ι : Type} (O : Out → Prop) : OutI ι → Prop
  | .nx Γ _ => O (.nx Γ)
  | .rt d _ => O (.rt d)
  | .bk _ _ => False
  | .ct _ _ => False
def KJ (p : Addr) (ks : List Int) (H : Hp) : Prop := ∃ kvs, H p = some (.dK kvs) ∧ kvs.map (·.1) = ks.map Sum.inl
theorem kj_stb {p : Addr} : Stb (KJ p) := fun m H H' e ⟨kvs, h, k⟩ => ⟨kvs, e _ _ h, k⟩
section
variable {B : Bs} {p : Addr} {Γ : Gm} {t u : TS} {te tk' : TE}
theorem ek_in {i : Nat} {k : Int} {ks : List Int} (hi : Γ[i]? = some (some (raw p))) (hk : EG (B.op p) tk' Γ (.int k)) : EJ (B.op p) (KJ p) (tOp (rInX B.K) tk' (tVar i)) Γ ks (.bl (decide (k ∈ ks))) := fun σ H r j Q q => by
  refine hk σ H r _ fun x H1 e1 rx => ?_
  obtain ⟨w, hw, rw'⟩ := r.at_ i _ hi
  obtain rfl := rw'.raw_inv
  obtain rfl := rx.int_inv
  obtain ⟨kvs, h, hks⟩ := j
  refine ⟨_, hw, .inr ⟨p, _, rfl, dget_rd (.inl (e1 _ _ h)), q _ H1 e1 ?_⟩⟩
  rw [val_keys hks]
  exact .bl _
theorem si_putK {i : Nat} {k : Int} {ks : List Int} {d : D} {Rr : Hp → V → D → Prop} {O : OutI (List Int) → Prop} (hi : Γ[i]? = some (some (raw p))) (hv : EG (B.op p) te Γ d) (hk : EG (B.op p) tk' Γ (.int k)) (hn : k ∉ ks) (hl : ks.length ≤ 1000)
    (o : O (.nx Γ (ks ++ [k]))) : SI (B.op p) p Rr (KJ p) (tAsg te (gSub (tVar i) tk' rSetD)) Γ ks O := fun σ H E r j n q b c => by
  refine hv σ H r _ fun v H1 e1 rv => ?_
  obtain ⟨w, hw, rw'⟩ := r.at_ i _ hi
  obtain rfl := rw'.raw_inv
  refine ⟨_, hw, hk σ H1 (r.ext e1) _ fun x H2 e2 rx => ?_⟩
  obtain rfl := rx.int_inv
  obtain ⟨kvs, h, hks⟩ := j
  have h2 := e2 _ _ (e1 _ _ h)
  have hlen : kvs.length = ks.length := by
    have := congrArg List.length hks
    rwa [List.length_map, List.length_map] at this
  refine ⟨p, upd H2 p (.dK (putK kvs (Sum.inl k) v)), rfl, .inl ⟨kvs, Sum.inl k, h2, rfl, by rw [hlen, sizeLine_eq]; omega, rfl⟩, ?_⟩
  have s1 : Sp p H2 (upd H2 p (.dK (putK kvs (Sum.inl k) v))) := Sp.upd h2 fun _ _ z => nomatch z
  refine n σ _ Γ _ ((Sp.of (e1.trans e2)).trans s1) ⟨_, upd_same, ?_⟩ ((r.ext (e1.trans e2)).sm (s1.sm op_pp)) o
  have hnone : valV kvs (Sum.inl k) = none := by
    have z := val_keys hks k
    rw [decide_eq_false hn] at z
    cases y : valV kvs (Sum.inl k) with
    | none => rfl
    | some x => rw [y] at z; cases z
  rw [putK_new _ hnone, List.map_append, List.map_append, hks]
  rfl
theorem sg_openK {i : Nat} {O : Out → Prop} (h : ∀ p, ¬ B.pp p → SI (B.op p) p (R B) (KJ p) u (Γ.set i (some (raw p))) [] (endO O)) : SG B (tSeq (tAsg tDNewK (gName i)) u) Γ O := fun σ H E r n q b c p hp => by
  have E4 : Same H (upd H p (.dK [])) := same_new hp
  have r0 : Rep (B.op p) (upd H p (.dK [])) (σ.set i (some (.ref p))) (Γ.set i (some (raw p))) := (r.opn hp E4 (by rw [upd_same]; exact fun z => nomatch z)).set i (.raw _)
  exact h p (r.pp.new hp) _ _ E r0 ⟨[], upd_same, rfl⟩ (fun σ' H' Γ' m' s j r' o => n σ' H' Γ' (Sp.same_from E4 s hp) r'.shut o) (fun v H' d m' s j r' o => q v H' d (Sp.same_from E4 s hp) r' o) (fun _ _ _ _ _ _ _ o => o.elim) fun _ _ _ _ _ _ _ o => o.elim
end
end Tl
end
section
set_option linter.all false
set_option autoImplicit false
set_option exponentiation.threshold 10000
/-! Chances in lowest terms. -/
namespace Tl
def ChR (p : Rat) : Prop := 0 < p ∧ p < 1 ∧ p.den ≤ 1000
theorem ChR.num {p : Rat} (h : ChR p) : 0 < p.num ∧ p.num < p.den := by
  have h1 := (Rat.lt_iff _ _).mp h.1
  have h2 := (Rat.lt_iff _ _).mp h.2.1
  have e0 : (0 : Rat).num = 0 := rfl
  have e1 : (1 : Rat).num = 1 := rfl
  have e2 : (0 : Rat).den = 1 := rfl
  have e3 : (1 : Rat).den = 1 := rfl
  rw [e0, e2] at h1
  rw [e1, e3] at h2
  omega
theorem ChR.le {p : Rat} (h : ChR p) : 0 ≤ p ∧ p ≤ 1 := ⟨Rat.le_of_lt h.1, Rat.le_of_lt h.2.1⟩
theorem compl {p : Rat} (h : ChR p) : (1 - p).num = p.den - p.num ∧ (1 - p).den = p.den := by
  obtain ⟨h1, h2⟩ := h.num
  have hc : ((p.den : Int) - p.num).natAbs.Coprime p.den := by
    have e : ((p.den : Int) - p.num).natAbs = p.den - p.num.natAbs := by omega
    rw [e]
    unfold Nat.Coprime
    rw [Nat.gcd_self_sub_left (by omega)]
    exact p.reduced
  have e : (1 - p) = { num := (p.den : Int) - p.num, den := p.den, den_nz := p.den_nz, reduced := hc } := by
    rw [Rat.mk_eq_divInt, Rat.sub_eq_add_neg, ← q_add 1 (-p), Rat.neg_num, Rat.neg_den]
    have e1 : (1 : Rat).num = 1 := rfl
    have e3 : (1 : Rat).den = 1 := rfl
    rw [e1, e3]
    congr 1 <;> omega
  rw [e]
  exact ⟨rfl, rfl⟩
def od : Nat → Nat → Rat
  | a, b => if h : b ≠ 0 ∧ a.Coprime b then { num := (a : Int), den := b, den_nz := h.1, reduced := h.2 } else 0
theorem od_ok : ∀ x ∈ [(1, 2), (1, 4), (1, 3), (2, 3), (999, 1000), (1, 7), (2, 7), (3, 7), (4, 7), (5, 7), (6, 7)], ChR (od x.1 x.2) ∧ (od x.1 x.2).num = (x.1 : Nat) ∧ (od x.1 x.2).den = x.2 := by
  intro x hx
  simp only [List.mem_cons, List.not_mem_nil, or_false] at hx
  unfold ChR
  rcases hx with h | h | h | h | h | h | h | h | h | h | h <;> subst h <;> decide
/-- what is small enough for the program's arithmetic -/
theorem sz_nat {K N k : Nat} {q : Rat} (h : Sz K N k q) (h0 : 0 < K) (hK : K ≤ 1000) (hk : k ≤ 200) (hN : N ≤ 2 ^ 100) : q.num.natAbs < 2 ^ 4000 ∧ q.den < 2 ^ 4000 := by
  have h1 : K ^ k ≤ 2 ^ 2000 := Nat.le_trans (Nat.pow_le_pow_left hK k) (Nat.le_trans (Nat.pow_le_pow_right (by omega) hk) (by decide +kernel))
  have h2 : (2 : Nat) ^ 2000 < 2 ^ 4000 := Nat.pow_lt_pow_right (by omega) (by omega)
  have h3 : (2 : Nat) ^ 100 * 2 ^ 2000 < 2 ^ 4000 := by rw [← Nat.pow_add]; exact Nat.pow_lt_pow_right (by omega) (by omega)
  exact h.small h0 (Nat.lt_of_le_of_lt h1 h2) (Nat.lt_of_le_of_lt (Nat.mul_le_mul hN h1) h3)
theorem take_sz {K N k L : Nat} (hK : 0 < K) {qs : List Rat} (h : ∀ q ∈ qs, Sz K N k q) (hl : qs.length ≤ L) (i : Nat) : Sz K (L * N) k (qs.take i).sum := by
  refine (Sz.sum hK fun q hq => h q (List.mem_of_mem_take hq)).mono ?_ (Nat.le_refl k)
  refine Nat.mul_le_mul_right N (Nat.le_trans ?_ hl)
  rw [List.length_take]
  omega
end Tl
end
section
set_option Elab.async false
set_option linter.all false
set_option maxRecDepth 100000
set_option maxHeartbeats 2000000
set_option autoImplicit false
set_option exponentiation.threshold 10000

/-! The law's heights with their chances; means; keys that are unlike. -/
namespace Tl
open PySem PySem.Spec PyProof.Rows L2
local macro_rules | `(tactic| walk_at "ev") => `(tactic| first
  | ((with_reducible refine' eg_var ?k1); (case k1 => exact rfl))
  | with_reducible exact eg_int
  | with_reducible exact eg_str
  | with_reducible exact eg_bl
  | with_reducible exact eg_non
  | ((with_reducible refine' eg_sub ?k1 ?k2); (case k1 => walk_at "ev"); (case k2 => walk_at "ev"))
  | ((with_reducible refine' eg_add ?k1 ?k2); (case k1 => walk_at "ev"); (case k2 => walk_at "ev"))
  | ((with_reducible refine' eg_lt ?k1 ?k2); (case k1 => walk_at "ev"); (case k2 => walk_at "ev"))
  | ((with_reducible refine' eg_le ?k1 ?k2); (case k1 => walk_at "ev"); (case k2 => walk_at "ev"))
  | ((with_reducible refine' eg_gt ?k1 ?k2); (case k1 => walk_at "ev"); (case k2 => walk_at "ev"))
  | ((with_reducible refine' eg_ge ?k1 ?k2); (case k1 => walk_at "ev"); (case k2 => walk_at "ev"))
  | ((with_reducible refine' eg_neg ?k1); (case k1 => walk_at "ev"))
  | ((with_reducible refine' eg_ixT ?k1 ?k2 ?k3); (case k1 => walk_at "ev"); (case k2 => walk_at "ev"); (case k3 => exact rfl))
  | ((with_reducible refine' eg_ixL ?k1 ?k2 ?k3); (case k1 => walk_at "ev"); (case k2 => walk_at "ev"); (case k3 => exact rfl))
  | ((with_reducible refine' eg_tup ?k1 ?k2); (case k1 => walk_at "av"); (case k2 => exact le1000 rfl))
  | ((with_reducible refine' eg_lst ?k1 ?k2); (case k1 => walk_at "av"); (case k2 => exact le1000 rfl))
  | ((with_reducible refine' eg_isN ?k1 ?k2); (case k1 => walk_at "ev"); (case k2 => exact rfl))
  | ((with_reducible refine' eg_notN ?k1 ?k2); (case k1 => walk_at "ev"); (case k2 => exact rfl))
  | ((with_reducible refine' eg_eqI ?k1 ?k2); (case k1 => walk_at "ev"); (case k2 => walk_at "ev"))
  | ((with_reducible refine' eg_eqStr ?k1 ?k2); (case k1 => walk_at "ev"); (case k2 => walk_at "ev"))
  | assumption)
local macro_rules | `(tactic| walk_at "av") => `(tactic| first
  | with_reducible exact ag_nil
  | ((with_reducible refine' ag_cons ?k1 ?k2); (case k1 => walk_at "ev"); (case k2 => walk_at "av")))
local macro_rules | `(tactic| walk_at "tv") => `(tactic| first
  | ((with_reducible refine' tg_test ?k1); (case k1 => walk_at "ev"))
  | ((with_reducible refine' tg_B ?k1); (case k1 => walk_at "ev"))
  | ((with_reducible refine' tg_not ?k1); (case k1 => walk_at "tv")))
local macro_rules | `(tactic| walk_at "nm") => `(tactic| first | dsimp only [cxOf] | skip)

section
variable {B : Bs} {mg : Str → Option Value} {base : Heap}
theorem sz_sm {K N k : Nat} {q : Rat} (h : Sz K N k q) (h0 : 0 < K) (hK : K ≤ 1000) (hk : k ≤ 200) (hN : N ≤ 2 ^ 100) : sm q := sz_nat h h0 hK hk hN
theorem ch_sz {p : Rat} (h : ChR p) : Sz p.den 1 1 p ∧ Sz p.den 1 1 (1 - p) := by
  refine ⟨⟨h.le.1, h.le.2, by rw [Nat.pow_one]; exact Nat.dvd_refl _⟩, ⟨by have := h.le.2; grind, ?_, by rw [Nat.pow_one, (compl h).2]; exact Nat.dvd_refl _⟩⟩
  have e : ((1 : Nat) : Rat) = 1 := rfl
  rw [e]
  have := h.le.1
  grind
theorem pow_sz {p : Rat} (h : ChR p) : ∀ j : Nat, Sz p.den 1 j (p ^ j)
  | 0 => by rw [Rat.pow_zero]; exact Sz.nat p.den 1
  | j + 1 => by
    rw [Rat.pow_succ]
    exact (pow_sz h j).mul (ch_sz h).1
theorem ChR.ok {p : Rat} (h : ChR p) : ChOk p.num p.den := by
  obtain ⟨h1, h2⟩ := h.num
  have := h.2.2
  exact ⟨h1, h2, by omega⟩
theorem ch_self (p : Rat) : Rat.divInt p.num (p.den : Int) = p := Rat.num_divInt_den p
def gwD (p : Rat) (n : Nat) (i : Nat) : D := .tup [.int (1 + (i : Int)), fr (shr p (1 + i) n)]
def S_lgrown (ds : List D) (e : D) : Prop := ∃ (p : Rat) (n : Nat), ds = [fr p, .int (n : Nat)] ∧ ChR p ∧ 1 ≤ n ∧ n ≤ 3 ∧ e = .lst ((List.range n).map (gwD p n))
theorem ok_law_grown (T : Txt B.K mg) : FnOk B.P B.w B.K mg base CX0 4 T.law_grown.f T.law_grown.d p_law_grown (PSp B.P B.w B.K S_lgrown) := by
  have G_law_product := ok_law_product (base := base) T
  have G_law_frac := ok_law_frac (base := base) T
  refine fn_pure T.law_grown.F sc_law_grown (fun ds e h => by obtain ⟨a, b, rfl, _⟩ := h; rfl) fun pp cdv A outer s H E ds e hr hS => ⟨_, (pss_cons (ps_par3 (i := 2) (j := 3) (l := 4) rfl sc_law_grown.nd rfl rfl rfl (by decide) (by decide) (by decide) rfl rfl rfl (pa_cons (pe_lst pa_nil) (pa_cons (pe_tupF (pa_cons pe_int (pa_cons pe_int pa_nil))) (pa_cons pe_int pa_nil))) (by rfl)) (pss_cons (ps_while PassesOwn.never (pt_cmpR op_lt (pv 4) (pv 1) (nomark _)) (pss_cons (ps_expr (k_bm (K := B.K) rfl PySem.F.plainAttrs_list PySem.F.slot_list_append PySem.F.type_list_append mt_append (pv 2) (pa_cons (pe_tupF (pa_cons (pv 4) (pa_cons (pe_call G_law_product (hr.mono (by decide)) (by rfl) T.law_product.g T.law_product.F.kp T.law_product.b .nil pass0 (pa_cons (pv 3) (pa_cons (pe_tupF (pa_cons (pe_op op_sub (pe_ix (k_ix (K := B.K) rfl) (pv 0) pe_int (fun _ _ => rfl)) (pe_ix (k_ix (K := B.K) rfl) (pv 0) pe_int (fun _ _ => rfl))) (pa_cons (pe_ix (k_ix (K := B.K) rfl) (pv 0) pe_int (fun _ _ => rfl)) pa_nil))) pa_nil))) pa_nil))) pa_nil))) (pss_one (ps_par (i := 3) (j := 4) rfl sc_law_grown.nd rfl rfl (by decide) rfl rfl (pa_cons (pe_call G_law_product (hr.mono (by decide)) (by rfl) T.law_product.g T.law_product.F.kp T.law_product.b .nil pass0 (pa_cons (pv 3) (pa_cons (pe_call G_law_frac (hr.mono (by decide)) (by rfl) T.law_frac.g T.law_frac.F.kp T.law_frac.b .nil pass0 (pa_cons (pe_ix (k_ix (K := B.K) rfl) (pv 0) pe_int (fun _ _ => rfl)) (pa_cons (pe_ix (k_ix (K := B.K) rfl) (pv 0) pe_int (fun _ _ => rfl)) pa_nil))) pa_nil))) (pa_cons (pe_op (k_add (K := B.K) rfl) (pv 4) pe_int) pa_nil)) (by rfl))))) (pss_one (ps_ret (pe_op (k_add (K := B.K) rfl) (pv 2) (pe_lst (pa_cons (pe_tupF (pa_cons (pv 4) (pa_cons (pv 3) pa_nil))) pa_nil))))))), ?_⟩
  obtain ⟨p, n, rfl, hp, h1, h3, rfl⟩ := hS
  have hK := p.den_pos
  have hK2 := hp.2.2
  have hd : ((p.den : Int)).natAbs < 2 ^ 8900 := Nat.lt_of_le_of_lt (m := 1000) (by omega) (by decide)
  have sp : ∀ j, j ≤ 3 → sm (p ^ j) := fun j hj => sz_sm (pow_sz hp j) hK hK2 (by omega) (by decide)
  have sq : sm (1 - p) := sz_sm (ch_sz hp).2 hK hK2 (by omega) (by decide)
  have s1 : sm p := sz_sm (ch_sz hp).1 hK hK2 (by omega) (by decide)
  have e1 : .tup [.int ((p.den : Int) - p.num), .int (p.den : Int)] = fr (1 - p) := by unfold fr; rw [(compl hp).1, (compl hp).2]
  refine sg_ctx [some (.tup [.int p.num, .int (p.den : Int)]), some (.int (n : Nat)), none, none, none] rfl ?_
  refine sg_openE (opens_3 (i1 := 2) (i2 := 3) (i3 := 4) (d2 := .tup [.int 1, .int 1]) (d3 := .int 1) (fun pa => by walk_at "ev") (fun pa => by walk_at "ev") (by decide) (by decide)) fun pa hpa => ?_
  have hR : ∀ (H : Hp) (v : V) (d : D), R ((B.at pp).op pa) H v d → R (B.at pp) H v d := fun _ _ _ r => r.shut
  refine si_seq (si_while lj_stb (fun k Γ ds => ∃ j : Nat, Γ = [some (.tup [.int p.num, .int (p.den : Int)]), some (.int (n : Nat)), some (raw pa), some (fr (p ^ j)), some (.int (1 + (j : Int)))] ∧ ds = (List.range j).map (gwD p n) ∧ j + 1 ≤ n ∧ k = n - (j + 1)) (n - 1) ⟨0, by rw [Rat.pow_zero]; rfl, rfl, by omega, by omega⟩ ?_)
  rintro k Γ ds ⟨j, rfl, rfl, hj, hk⟩
  refine ⟨_, by walk_at "tv", fun hl => ?_, fun hl => ?_⟩
  · have hl0 : 1 + (j : Int) < (n : Nat) := of_decide_eq_true hl
    have hs : shr p (1 + j) n = p ^ j * (1 - p) := by
      unfold shr
      rw [if_neg (by omega)]
      have e : 1 + j - 1 = j := by omega
      rw [e]
    refine si_seq (si_append (i := 2) (d := gwD p n j) rfl (eg_tup (ag_cons (by walk_at "ev") (ag_cons (eg_call (ag_cons (by walk_at "ev") (ag_cons (eg_is (eg_tup (ag_cons (eg_sub (eg_ixT (d := .int (p.den : Int)) (by walk_at "ev") (by walk_at "ev") rfl) (eg_ixT (d := .int p.num) (by walk_at "ev") (by walk_at "ev") rfl)) (ag_cons (eg_ixT (d := .int (p.den : Int)) (by walk_at "ev") (by walk_at "ev") rfl) ag_nil)) (le1000 rfl)) e1) ag_nil)) ⟨p ^ j, 1 - p, rfl, sp j (by omega), sq, by rw [hs]⟩) ag_nil)) (le1000 rfl)) (by rw [List.length_map, List.length_range]; omega) ?_)
    refine si_sg lj_stb hR (sg_par (d := fr (p ^ (j + 1))) (e := .int (1 + (j : Int) + 1)) (ag_cons (eg_call (ag_cons (by walk_at "ev") (ag_cons (eg_call (ag_cons (eg_ixT (d := .int p.num) (by walk_at "ev") (by walk_at "ev") rfl) (ag_cons (eg_ixT (d := .int (p.den : Int)) (by walk_at "ev") (by walk_at "ev") rfl) ag_nil)) ⟨p.num, p.den, rfl, by omega, hd, by rw [ch_self]⟩) ag_nil)) ⟨p ^ j, p, rfl, sp j (by omega), s1, by rw [Rat.pow_succ]⟩) (ag_cons (by walk_at "ev") ag_nil)) ?_)
    refine ⟨n - (j + 1 + 1), by omega, j + 1, ?_, by rw [List.range_succ, List.map_append]; rfl, by omega, rfl⟩
    have e : (1 : Int) + ((j + 1 : Nat) : Int) = 1 + (j : Int) + 1 := by omega
    rw [e]
    rfl
  · have hl0 : ¬ 1 + (j : Int) < (n : Nat) := of_decide_eq_false hl
    have hn : n = j + 1 := by omega
    have hs : shr p (1 + j) n = p ^ j := by
      unfold shr
      rw [if_pos (by omega)]
      have e : 1 + j - 1 = j := by omega
      rw [e]
    dsimp only [thenI]
    refine si_retC (i := 2) hpa rfl (eg_cat (ds := (List.range j).map (gwD p n)) (es := [gwD p n j]) (by walk_at "ev") (eg_lst (ag_cons (eg_is (e := gwD p n j) (eg_tup (ag_cons (by walk_at "ev") (ag_cons (by walk_at "ev") ag_nil)) (le1000 rfl)) (by unfold gwD; rw [hs])) ag_nil) (le1000 rfl)) (by rw [List.length_map, List.length_range, sizeLine_eq]; show j + 1 ≤ _; omega)) ?_
    show D.lst _ = D.lst _
    rw [hn, List.range_succ, List.map_append]
    rfl
def S_lput (ds : List D) (e : D) : Prop := ∃ (T : Tw) (k : Int) (p : Rat) (c : Bool) (m : Int), ds = [tw T, .int k, fr p, .tup (rl c m)] ∧ TwOk T ∧ k ∉ T.map (·.1) ∧ ChR p ∧ 1 ≤ m ∧ m ≤ 3 ∧ e = .lst ((frs T k p c m).map stD)
theorem ok_law_put (T : Txt B.K mg) : FnOk B.P B.w B.K mg base CX0 5 T.law_put.f T.law_put.d p_law_put (PSp B.P B.w B.K S_lput) := by
  have G_law_end := ok_law_end (base := base) T
  have G_law_grown := ok_law_grown (base := base) T
  refine fn_pure T.law_put.F sc_law_put (fun ds e h => by obtain ⟨_, _, _, _, _, rfl, _⟩ := h; rfl) fun pp cdv A outer s H E ds e hr hS => ⟨_, (pss_cons (ps_set (i := 4) sc_law_put.nd rfl (Or.inl rfl) (pe_call G_law_end (hr.mono (by decide)) (by rfl) T.law_end.g T.law_end.F.kp T.law_end.b .nil pass0 (pa_cons (pv 3) (pa_cons (pv 0) pa_nil)))) (pss_one (ps_ret (pe_lc (own := [("_law_height", 5), ("_law_part", 6)]) rfl sc_law_put.nd (k_list (K := B.K) rfl (pe_call G_law_grown (hr.mono (by decide)) (by rfl) T.law_grown.g T.law_grown.F.kp T.law_grown.b .nil pass0 (pa_cons (pv 2) (pa_cons (pv 4) pa_nil)))) (blkOk_by (own := [("_law_height", 5), ("_law_part", 6)]) (N := n_law_put) (sc := defScope s_law_put) (by decide +kernel)) (fun _ _ _ _ _ => (k_pg (K := B.K) (n := 2) rfl rfl (pgs_cons (pg_name (i := 5) sc_law_put.nd rfl (Or.inl rfl)) (pgs_cons (pg_name (i := 6) sc_law_put.nd rfl (Or.inl rfl)) pgs_nil)))) (fun _ _ _ _ _ => pts_nil) (fun _ _ _ _ _ => (pe_tupF (pa_cons (pe_callTy (call_tupF (K := B.K) rfl) (by rfl) T.m_tuple (by decide +kernel) (pa_cons (pe_callB (k_sorted (K := B.K) rfl) (by rfl) T.m_sorted (by decide +kernel) (pa_cons (pe_op (k_add (K := B.K) rfl) (pv 0) (pe_tupF (pa_cons (pe_tupF (pa_cons (pv 1) (pa_cons (pv 5) pa_nil))) pa_nil))) pa_nil)) pa_nil)) (pa_cons (pv 6) pa_nil)))))))), ?_⟩
  obtain ⟨Tv, k, p, c, m, rfl, hT, hk, hp, h1, h2, rfl⟩ := hS
  have hl := lim_pos (c := c) h1 h2 (hi_nonneg Tv)
  refine sg_ctx [some (tw Tv), some (.int k), some (fr p), some (.tup (rl c m)), none, none, none] rfl ?_
  refine sg_seq (sg_asg (eg_call (by walk_at "av") ⟨c, m, Tv, rfl, hT, rfl⟩) ?_)
  have en : (((lim c m (hi Tv)).toNat : Nat) : Int) = lim c m (hi Tv) := by omega
  refine sg_ret (eg_lcAll (xs := List.range (lim c m (hi Tv)).toNat) (ee := gwD p (lim c m (hi Tv)).toNat) (js := [5] ++ ([6] ++ [])) (fun (i : Nat) => stD (ins Tv k (1 + (i : Int)), shr p (1 + i) (lim c m (hi Tv)).toNat)) (wg_list (eg_call (ds := [fr p, .int (lim c m (hi Tv))]) (by walk_at "av") ⟨p, (lim c m (hi Tv)).toNat, by rw [en], hp, by omega, by omega, rfl⟩)) (by decide) (by rw [List.length_range]; omega) fun i hi' => ⟨_, gg_2, eg_tup (ag_cons (eg_bi (ag_cons (eg_bi (ag_cons (eg_is (e := tw (Tv ++ [(k, 1 + (i : Int))])) (eg_catT (ds := Tv.map pr) (es := [pr (k, 1 + (i : Int))]) (by walk_at "ev") (eg_tup (ag_cons (by walk_at "ev") ag_nil) (le1000 rfl)) ?_) ?_) ag_nil) (cg_sortT (T := ins Tv k (1 + (i : Int))) (ins_perm k _ Tv).symm (ins_srt hT.1 hk))) ag_nil) cg_tupleL) (ag_cons (by walk_at "ev") ag_nil)) (le1000 rfl), fz_st _⟩) ?_
  · have := hT.2.2
    rw [List.length_map, sizeLine_eq]
    show Tv.length + 1 ≤ _
    omega
  · show D.tup _ = D.tup _
    rw [List.map_append]
    rfl
  · show D.lst _ = D.lst _
    unfold frs
    rw [List.map_map]
    rfl
/-- what a search costs, as a fraction -/
def cN (key : Int) (m : Str) (T : Tw) : Nat := cst T key (lean m) (early m)
theorem fr_nat (n : Nat) : fr ((n : Nat) : Rat) = .tup [.int (n : Int), .int 1] := rfl
theorem wk_ok {N : Nat} {T : Tw} (h : Wk N T) (hN : N ≤ 100) : TwOk T ∧ hi T ≤ 3 := ⟨⟨h.1, fun q hq => (h.2.1 q hq).1, by have := h.2.2; omega⟩, hi_le (by omega) fun q hq => (h.2.1 q hq).2⟩
theorem cN_le {key : Int} {m : Str} : ∀ (N : Nat) (T : Tw), Wk N T → cN key m T ≤ N + 4 := fun N T h => by
  have h1 := cst_le T key (lean m) (early m)
  have h2 : hi T ≤ 3 := hi_le (by omega) fun q hq => (h.2.1 q hq).2
  have h3 := h.2.2
  unfold cN
  omega
/-- states that are small enough -/
def StsOk (N M : Nat) (xs : List (Tw × Rat)) : Prop := ∃ K k : Nat, 0 < K ∧ K ≤ 1000 ∧ k ≤ 150 ∧ N ≤ 100 ∧ M ≤ 10 ^ 6 ∧ xs.length ≤ 100 ∧ Ok1 K N k M xs
theorem sts_mul {N M : Nat} {xs : List (Tw × Rat)} (h : StsOk N M xs) (key : Int) (m : Str) : ∃ K k : Nat, 0 < K ∧ K ≤ 1000 ∧ k ≤ 150 ∧ ∀ x ∈ xs, sm x.2 ∧ sm ((cN key m x.1 : Nat) : Rat) ∧ TwOk x.1 ∧ hi x.1 ≤ 1000 ∧ Sz K (10 ^ 6 * 104) k (x.2 * ((cN key m x.1 : Nat) : Rat)) := by
  obtain ⟨K, k, h0, hK, hk, hN, hM, hl, ho⟩ := h
  refine ⟨K, k, h0, hK, hk, fun x hx => ?_⟩
  obtain ⟨z1, z2⟩ := ho.sz hx
  have hc := cN_le (key := key) (m := m) N x.1 z1
  have z3 : Sz K 104 0 ((cN key m x.1 : Nat) : Rat) := (Sz.nat K _).mono (by omega) (Nat.le_refl 0)
  obtain ⟨y1, y2⟩ := wk_ok z1 hN
  exact ⟨sz_sm z2 h0 hK (by omega) (Nat.le_trans hM (by decide)), sz_sm z3 h0 hK (by omega) (by decide), y1, by omega, (z2.mul z3).mono (Nat.mul_le_mul_right _ hM) (Nat.le_refl _)⟩
def S_lmean (ds : List D) (e : D) : Prop := ∃ (xs : List (Tw × Rat)) (key : Int) (m : Str) (N M : Nat), ds = [.lst (xs.map stD), .int key, .str m] ∧ ManOk m ∧ StsOk N M xs ∧ e = fr (mn (fun T => ((cN key m T : Nat) : Rat)) xs)
theorem ok_law_mean (T : Txt B.K mg) : FnOk B.P B.w B.K mg base CX0 4 T.law_mean.f T.law_mean.d p_law_mean (PSp B.P B.w B.K S_lmean) := by
  have G_law_sum := ok_law_sum (base := base) T
  have G_law_product := ok_law_product (base := base) T
  have G_law_compares := ok_law_compares (base := base) T
  refine fn_pure T.law_mean.F sc_law_mean (fun ds e h => by obtain ⟨_, _, _, _, _, rfl, _⟩ := h; rfl) fun pp cdv A outer s H E ds e hr hS => ⟨_, (pss_one (ps_ret (pe_call G_law_sum (hr.mono (by decide)) (by rfl) T.law_sum.g T.law_sum.F.kp T.law_sum.b .nil pass0 (pa_cons (pe_lc (own := [("_law_known", 3), ("_law_part", 4)]) rfl sc_law_mean.nd (k_list (K := B.K) rfl (pv 0)) (blkOk_by (own := [("_law_known", 3), ("_law_part", 4)]) (N := n_law_mean) (sc := defScope s_law_mean) (by decide +kernel)) (fun _ _ _ _ _ => (k_pg (K := B.K) (n := 2) rfl rfl (pgs_cons (pg_name (i := 3) sc_law_mean.nd rfl (Or.inl rfl)) (pgs_cons (pg_name (i := 4) sc_law_mean.nd rfl (Or.inl rfl)) pgs_nil)))) (fun _ _ _ _ _ => pts_nil) (fun _ _ _ _ _ => (pe_call G_law_product (hr.mono (by decide)) (by rfl) T.law_product.g T.law_product.F.kp T.law_product.b .nil pass0 (pa_cons (pv 4) (pa_cons (pe_tupF (pa_cons (pe_call G_law_compares (hr.mono (by decide)) (by rfl) T.law_compares.g T.law_compares.F.kp T.law_compares.b .nil pass0 (pa_cons (pv 3) (pa_cons (pv 1) (pa_cons (pv 2) pa_nil)))) (pa_cons pe_int pa_nil))) pa_nil))))) pa_nil)))), ?_⟩
  obtain ⟨xs, key, m, N, M, rfl, hm, ho, rfl⟩ := hS
  have hl : xs.length ≤ 100 := by obtain ⟨_, _, _, _, _, _, _, z, _⟩ := ho; exact z
  obtain ⟨K, k, h0, hK, hk, hz⟩ := sts_mul ho key m
  refine sg_ctx [some (.lst (xs.map stD)), some (.int key), some (.str m), none, none] rfl ?_
  refine sg_ret (eg_call (ag_cons (eg_is (e := .lst ((xs.map fun (x : Tw × Rat) => x.2 * ((cN key m x.1 : Nat) : Rat)).map fr)) (eg_lcAll (xs := xs) (ee := stD) (js := [3] ++ ([4] ++ [])) (fun x => fr (x.2 * ((cN key m x.1 : Nat) : Rat))) (wg_list (by walk_at "ev")) (by decide) (by omega) fun x hx => ⟨_, gg_2, eg_call (ag_cons (by walk_at "ev") (ag_cons (eg_is (eg_tup (ag_cons (eg_call (by walk_at "av") ⟨x.1, key, m, rfl, (hz x hx).2.2.1, (hz x hx).2.2.2.1, hm, rfl⟩) (ag_cons eg_int ag_nil)) (le1000 rfl)) (fr_nat _).symm) ag_nil)) ⟨x.2, ((cN key m x.1 : Nat) : Rat), rfl, (hz x hx).1, (hz x hx).2.1, rfl⟩, rfl⟩) (by rw [List.map_map]; rfl)) ag_nil) ⟨xs.map fun (x : Tw × Rat) => x.2 * ((cN key m x.1 : Nat) : Rat), rfl, ?_, ?_, rfl⟩) rfl
  · intro q hq
    obtain ⟨x, hx, rfl⟩ := List.mem_map.mp hq
    exact sz_sm (hz x hx).2.2.2.2 h0 hK (by omega) (by decide)
  · intro i hi
    refine sz_sm (take_sz (L := 100) h0 (fun q hq => ?_) (by rw [List.length_map]; exact hl) i) h0 hK (k := k) (N := 100 * (10 ^ 6 * 104)) (by omega) (by decide)
    obtain ⟨x, hx, rfl⟩ := List.mem_map.mp hq
    exact (hz x hx).2.2.2.2
abbrev kvD (x : Tw × Rat) : D × D := (tw x.1, fr x.2)
def S_mean_of (ds : List D) (e : D) : Prop := ∃ (xs : List (Tw × Rat)) (key : Int) (m : Str) (N M : Nat), ds = [.dn (xs.map kvD), .int key, .str m] ∧ StsOk N M xs ∧ e = fr (mn (fun T => ((cN key m T : Nat) : Rat)) xs)
theorem ok_mean_of (T : Txt B.K mg) : FnOk B.P B.w B.K mg base CX0 4 T.mean_of.f T.mean_of.d p_mean_of (PSp B.P B.w B.K S_mean_of) := by
  have G_total := ok_total (base := base) T
  have G_times := ok_times (base := base) T
  have G_cost_in := ok_cost_in (base := base) T
  refine fn_pure T.mean_of.F sc_mean_of (fun ds e h => by obtain ⟨_, _, _, _, _, rfl, _⟩ := h; rfl) fun pp cdv A outer s H E ds e hr hS => ⟨_, (pss_one (ps_ret (pe_call G_total (hr.mono (by decide)) (by rfl) T.total.g T.total.F.kp T.total.b .nil pass0 (pa_cons (pe_lc (own := [("known", 3), ("part", 4)]) rfl sc_mean_of.nd (k_itemsN (B := B) rfl rfl rfl (pv 0)) (blkOk_by (own := [("known", 3), ("part", 4)]) (N := n_mean_of) (sc := defScope s_mean_of) (by decide +kernel)) (fun _ _ _ _ _ => (k_pg (K := B.K) (n := 2) rfl rfl (pgs_cons (pg_name (i := 3) sc_mean_of.nd rfl (Or.inl rfl)) (pgs_cons (pg_name (i := 4) sc_mean_of.nd rfl (Or.inl rfl)) pgs_nil)))) (fun _ _ _ _ _ => pts_nil) (fun _ _ _ _ _ => (pe_call G_times (hr.mono (by decide)) (by rfl) T.times.g T.times.F.kp T.times.b .nil pass0 (pa_cons (pv 4) (pa_cons (pe_tupF (pa_cons (pe_ix (k_ix (K := B.K) rfl) (pe_call G_cost_in (hr.mono (by decide)) (by rfl) T.cost_in.g T.cost_in.F.kp T.cost_in.b .nil pass0 (pa_cons (pv 3) (pa_cons (pv 1) (pa_cons (pv 2) pa_nil)))) pe_int (fun _ _ => rfl)) (pa_cons pe_int pa_nil))) pa_nil))))) pa_nil)))), ?_⟩
  obtain ⟨xs, key, m, N, M, rfl, ho, rfl⟩ := hS
  have hl : xs.length ≤ 100 := by obtain ⟨_, _, _, _, _, _, _, z, _⟩ := ho; exact z
  obtain ⟨K, k, h0, hK, hk, hz⟩ := sts_mul ho key m
  refine sg_ctx [some (.dn (xs.map kvD)), some (.int key), some (.str m), none, none] rfl ?_
  have hw := wg_items (B := B.at pp) (Γ := ([some (.dn (xs.map kvD)), some (.int key), some (.str m), none, none] : Gm)) (td := tVar 0) (kvs := xs.map kvD) (eg_var rfl)
  rw [List.map_map] at hw
  refine sg_ret (eg_call (ag_cons (eg_is (e := .lst ((xs.map fun (x : Tw × Rat) => x.2 * ((cN key m x.1 : Nat) : Rat)).map fr)) (eg_lcAll (xs := xs) (ee := stD) (js := [3] ++ ([4] ++ [])) (fun x => fr (x.2 * ((cN key m x.1 : Nat) : Rat))) hw (by decide) (by omega) fun x hx => ⟨_, gg_2, eg_call (ag_cons (by walk_at "ev") (ag_cons (eg_is (eg_tup (ag_cons (eg_ixT (ds := [_, _, .int (cN key m x.1 : Nat)]) (eg_call (by walk_at "av") ⟨x.1, key, m, rfl, (hz x hx).2.2.1, (hz x hx).2.2.2.1, rfl⟩) eg_int rfl) (ag_cons eg_int ag_nil)) (le1000 rfl)) (fr_nat _).symm) ag_nil)) ⟨x.2, ((cN key m x.1 : Nat) : Rat), rfl, (hz x hx).1, (hz x hx).2.1, rfl⟩, rfl⟩) (by rw [List.map_map]; rfl)) ag_nil) ⟨xs.map fun (x : Tw × Rat) => x.2 * ((cN key m x.1 : Nat) : Rat), rfl, ⟨by rw [List.length_map]; omega, K ^ k, Nat.pow_pos h0, ?_, ?_⟩, rfl⟩) rfl
  · exact Nat.lt_of_le_of_lt (Nat.le_trans (Nat.pow_le_pow_left hK k) (Nat.pow_le_pow_right (by omega) hk)) (by decide +kernel)
  · intro q hq
    obtain ⟨x, hx, rfl⟩ := List.mem_map.mp hq
    exact ⟨(hz x hx).2.2.2.2.2.2, (sz_sm (hz x hx).2.2.2.2 h0 hK (by omega) (by decide)).1⟩
def S_look_unlike (ds : List D) (e : D) : Prop := ∃ (l : Bool) (ks : List Int), ds = [row l (ks.map D.int)] ∧ ks.Nodup ∧ ks.length ≤ 1000 ∧ e = .non
theorem row_row (l : Bool) (r : List D) : S_is_row [row l r] (.bl true) := by
  cases l
  · exact ⟨r, .inl rfl, rfl⟩
  · exact ⟨r, .inr rfl, rfl⟩
theorem wg_en {Γ : Gm} {tA : TA} {l : Bool} {r : List D} (h : AG B tA Γ [row l r]) : WG B (iEnX B.K tA) Γ (enD r) := by
  cases l
  · exact wg_enT h
  · exact wg_enL h
theorem ok_look_unlike (T : Txt B.K mg) : FnOk B.P B.w B.K mg base CX0 2 T.look_unlike.f T.look_unlike.d p_look_unlike (PSp B.P B.w B.K S_look_unlike) := by
  have G_is_row := ok_is_row (base := base) T
  have G_is_integer := ok_is_integer (base := base) T
  refine fn_pure T.look_unlike.F sc_look_unlike (fun ds e h => by obtain ⟨_, _, rfl, _⟩ := h; rfl) fun pp cdv A outer s H E ds e hr hS => ⟨_, (pss_cons (ps_if (pt_not (pt_val (pe_call G_is_row (hr.mono (by decide)) (by rfl) T.is_row.g T.is_row.F.kp T.is_row.b .nil pass0 (pa_cons (pv 0) pa_nil)))) pss_never pss_nil) (pss_cons (ps_set (i := 1) sc_look_unlike.nd rfl (Or.inl rfl) pe_dnewK) (pss_one (ps_for PassesOwn.never rfl (k_enumX (K := B.K) rfl (by rfl) T.m_enumerate (pa_cons (pv 0) pa_nil)) (k_pg (K := B.K) (n := 2) rfl rfl (pgs_cons (pg_name (i := 2) sc_look_unlike.nd rfl (Or.inl rfl)) (pgs_cons (pg_name (i := 3) sc_look_unlike.nd rfl (Or.inl rfl)) pgs_nil))) (pss_cons (ps_if (PW.pt (pw_or (pt_not (pt_val (pe_call G_is_integer (hr.mono (by decide)) (by rfl) T.is_integer.g T.is_integer.F.kp T.is_integer.b .nil pass0 (pa_cons (pv 3) pa_nil)))) (pw_or1 (pt_cmpR (k_in (K := B.K) rfl (hu_of hr)) (pv 3) (pv 1) (by rfl))))) pss_never pss_nil) (pss_one (ps_asg pe_bl (pg_sub (pv 1) (pv 3) (set_dict (hu_of hr)))))))))), ?_⟩
  obtain ⟨l, ks, rfl, hn, hl, rfl⟩ := hS
  refine sg_ctx [some (row l (ks.map D.int)), none, none, none] rfl ?_
  refine sg_seq (sg_if (tg_notT (tg_test (eg_call (by walk_at "av") (row_row l _)))) (fun h => absurd h Bool.false_ne_true) fun _ => sg_next ?_)
  refine sg_openK fun p hp => ?_
  refine si_for kj_stb op_pp (wg_en (B := (B.at pp).op p) (by walk_at "av")) (fun i Γ m => m = ks.take i ∧ ∃ x y, Γ = [some (row l (ks.map D.int)), some (raw p), x, y]) ⟨rfl, none, none, rfl⟩ ?_ ?_
  · rintro i d Γ m hd ⟨rfl, x, y, rfl⟩
    obtain ⟨e, he, rfl⟩ := enD_get hd
    obtain ⟨k, hk, rfl⟩ := map_get he
    refine ⟨_, _, gg_2, ?_⟩
    have hi := (List.getElem?_eq_some_iff.mp hk).1
    have hnk : k ∉ ks.take i := by
      intro z
      have e := (List.getElem?_eq_some_iff.mp hk).2
      have h2 : ks.take (i + 1) = ks.take i ++ [k] := by rw [List.take_add_one, hk]; rfl
      have h3 : (ks.take (i + 1)).Nodup := hn.sublist (List.take_sublist _ _)
      rw [h2, List.nodup_append] at h3
      exact h3.2.2 k z k List.mem_cons_self rfl
    refine si_seq (si_ifJ kj_stb (tj_is (c := false) (tj_or kj_stb (a := false) (tj_not (tj_of (tg_test (eg_call (d := .bl true) (by walk_at "av") ⟨k, rfl, rfl⟩)))) fun _ => tj_test (ek_in (k := k) (ks := ks.take i) rfl (by walk_at "ev"))) (by rw [decide_eq_false hnk]; rfl)) (fun h => absurd h Bool.false_ne_true) fun _ => ?_)
    refine si_sg kj_stb (fun _ _ _ r => r.shut) (sg_next ?_)
    dsimp only [liftO, thenI]
    refine si_putK (k := k) (d := .bl true) rfl (by walk_at "ev") (by walk_at "ev") hnk (by rw [List.length_take]; omega) ?_
    refine ⟨by rw [List.take_add_one, hk]; rfl, _, _, rfl⟩
  · rintro Γ m ⟨rfl, x, y, rfl⟩
    exact rfl
end
end Tl
end
section
set_option Elab.async false
set_option linter.all false
set_option maxRecDepth 100000
set_option maxHeartbeats 2000000
set_option autoImplicit false
set_option exponentiation.threshold 10000

/-! The towers behind a plan: a list, a dict. -/
namespace Tl
open PySem PySem.Spec PyProof.Rows L2
local macro_rules | `(tactic| walk_at "ev") => `(tactic| first
  | ((with_reducible refine' eg_var ?k1); (case k1 => exact rfl))
  | with_reducible exact eg_int
  | with_reducible exact eg_str
  | with_reducible exact eg_bl
  | with_reducible exact eg_non
  | ((with_reducible refine' eg_sub ?k1 ?k2); (case k1 => walk_at "ev"); (case k2 => walk_at "ev"))
  | ((with_reducible refine' eg_add ?k1 ?k2); (case k1 => walk_at "ev"); (case k2 => walk_at "ev"))
  | ((with_reducible refine' eg_lt ?k1 ?k2); (case k1 => walk_at "ev"); (case k2 => walk_at "ev"))
  | ((with_reducible refine' eg_le ?k1 ?k2); (case k1 => walk_at "ev"); (case k2 => walk_at "ev"))
  | ((with_reducible refine' eg_gt ?k1 ?k2); (case k1 => walk_at "ev"); (case k2 => walk_at "ev"))
  | ((with_reducible refine' eg_ge ?k1 ?k2); (case k1 => walk_at "ev"); (case k2 => walk_at "ev"))
  | ((with_reducible refine' eg_neg ?k1); (case k1 => walk_at "ev"))
  | ((with_reducible refine' eg_ixT ?k1 ?k2 ?k3); (case k1 => walk_at "ev"); (case k2 => walk_at "ev"); (case k3 => exact rfl))
  | ((with_reducible refine' eg_ixL ?k1 ?k2 ?k3); (case k1 => walk_at "ev"); (case k2 => walk_at "ev"); (case k3 => exact rfl))
  | ((with_reducible refine' eg_tup ?k1 ?k2); (case k1 => walk_at "av"); (case k2 => exact le1000 rfl))
  | ((with_reducible refine' eg_lst ?k1 ?k2); (case k1 => walk_at "av"); (case k2 => exact le1000 rfl))
  | ((with_reducible refine' eg_isN ?k1 ?k2); (case k1 => walk_at "ev"); (case k2 => exact rfl))
  | ((with_reducible refine' eg_notN ?k1 ?k2); (case k1 => walk_at "ev"); (case k2 => exact rfl))
  | ((with_reducible refine' eg_eqI ?k1 ?k2); (case k1 => walk_at "ev"); (case k2 => walk_at "ev"))
  | ((with_reducible refine' eg_eqStr ?k1 ?k2); (case k1 => walk_at "ev"); (case k2 => walk_at "ev"))
  | assumption)
local macro_rules | `(tactic| walk_at "av") => `(tactic| first
  | with_reducible exact ag_nil
  | ((with_reducible refine' ag_cons ?k1 ?k2); (case k1 => walk_at "ev"); (case k2 => walk_at "av")))
local macro_rules | `(tactic| walk_at "tv") => `(tactic| first
  | ((with_reducible refine' tg_test ?k1); (case k1 => walk_at "ev"))
  | ((with_reducible refine' tg_B ?k1); (case k1 => walk_at "ev"))
  | ((with_reducible refine' tg_not ?k1); (case k1 => walk_at "tv")))
local macro_rules | `(tactic| walk_at "nm") => `(tactic| first | dsimp only [cxOf] | skip)

section
variable {B : Bs} {mg : Str → Option Value} {base : Heap}
theorem set_same {Γ : Gm} {i : Nat} {x : Option D} (h : Γ[i]? = some x) : Γ.set i x = Γ := by
  obtain ⟨h1, h2⟩ := List.getElem?_eq_some_iff.mp h
  rw [← h2]
  exact List.set_getElem_self h1
/-- if test then x = e -/
theorem sg_ifset {Γ : Gm} {tt : TT} {te : TE} {i : Nat} {d d0 : D} {b : Bool} {O : Out → Prop} (h : TGd B tt Γ b) (h1 : b = true → EG B te Γ d) (e : Γ[i]? = some (some d0)) (h2 : b = false → d = d0) (o : O (.nx (Γ.set i (some d)))) : SG B (tIfS tt (tAsg te (gName i)) tNext) Γ O := by
  refine sg_if h (fun hb => sg_asg (h1 hb) o) fun hb => sg_next ?_
  rw [← h2 hb] at e
  rw [set_same e] at o
  exact o
theorem lst1_snoc {p : Rat} {c : Bool} {m : Int} {d : Deed} {ys : List (Tw × Rat)} {i : Nat} {x : Tw × Rat} (h : ys[i]? = some x) : lst1 p c m (ys.take (i + 1)) d = lst1 p c m (ys.take i) d ++ shd x.2 (aft x.1 d p c m) := by
  rw [List.take_add_one, h]
  unfold lst1
  rw [List.flatMap_append]
  congr 1
  exact List.append_nil _
theorem lst1_take {p : Rat} {c : Bool} {m : Int} {d : Deed} (ys : List (Tw × Rat)) (i : Nat) : ∃ zs, lst1 p c m ys d = lst1 p c m (ys.take i) d ++ zs := ⟨lst1 p c m (ys.drop i) d, by
  unfold lst1
  rw [← List.flatMap_append, List.take_append_drop]⟩
/-- where a plan begins -/
def PlOk (T : Tw) (h : List Deed) (p : Rat) (m : Int) : Prop := Wk 8 T ∧ h.length ≤ 8 ∧ nin h ≤ 4 ∧ ChR p ∧ 1 ≤ m ∧ m ≤ 3
theorem one_ok (p : Rat) {N : Nat} {T : Tw} (w : Wk N T) : Ok1 p.den N 0 1 [(T, 1)] := by
  refine ⟨fun x hx => ?_, ?_⟩
  · rw [List.mem_singleton.mp hx]
    exact ⟨w, by show (0 : Rat) ≤ 1; decide, by show (1 : Rat).den ∣ _; exact Nat.one_dvd _⟩
  · show mn _ [(T, 1)] ≤ _
    rw [mn_one]
    exact Rat.le_refl
theorem nin_take (h : List Deed) (j : Nat) : nin (h.take j) ≤ nin h := by
  have e := nin_app (h.take j) (h.drop j)
  rw [List.take_append_drop] at e
  omega
theorem pl_states {T : Tw} {h : List Deed} {p : Rat} {c : Bool} {m : Int} (hp : PlOk T h p m) (j : Nat) : Ok1 p.den 16 16 6561 ((h.take j).foldl (lst1 p c m) [(T, 1)]) ∧ ((h.take j).foldl (lst1 p c m) [(T, 1)]).length ≤ 81 := by
  obtain ⟨w, hl, hn, hc, m1, m3⟩ := hp
  obtain ⟨a1, a2⟩ := led_ok (c := c) hc.le.1 hc.le.2 m1 m3 (h.take j) (one_ok p w) (L := 1) (Nat.le_refl 1)
  have h1 : (h.take j).length ≤ 8 := by rw [List.length_take]; omega
  have h2 := nin_take h j
  refine ⟨a1.mono (by omega) (by omega) ?_, Nat.le_trans a2 ?_⟩
  · rw [Nat.one_mul]
    exact Nat.le_trans (Nat.pow_le_pow_right (by omega) h1) (by decide)
  · rw [Nat.one_mul]
    exact Nat.le_trans (Nat.pow_le_pow_right (by omega) (by omega : nin (h.take j) ≤ 4)) (by decide)
theorem pl_statesD {T : Tw} {h : List Deed} {p : Rat} {c : Bool} {m : Int} (hp : PlOk T h p m) (j : Nat) : Ok1 p.den 16 16 6561 ((h.take j).foldl (dst1 p c m) [(T, 1)]) ∧ ((h.take j).foldl (dst1 p c m) [(T, 1)]).length ≤ 81 ∧ (((h.take j).foldl (dst1 p c m) [(T, 1)]).map (·.1)).Nodup := by
  obtain ⟨w, hl, hn, hc, m1, m3⟩ := hp
  obtain ⟨a1, a2, a3⟩ := ledD_ok (c := c) hc.le.1 hc.le.2 m1 m3 (h.take j) (one_ok p w) (L := 1) (Nat.le_refl 1) (List.pairwise_singleton _ _)
  have h1 : (h.take j).length ≤ 8 := by rw [List.length_take]; omega
  have h2 := nin_take h j
  refine ⟨a1.mono (by omega) (by omega) ?_, Nat.le_trans a2 ?_, a3⟩
  · rw [Nat.one_mul]
    exact Nat.le_trans (Nat.pow_le_pow_right (by omega) h1) (by decide)
  · rw [Nat.one_mul]
    exact Nat.le_trans (Nat.pow_le_pow_right (by omega) (by omega : nin (h.take j) ≤ 4)) (by decide)
theorem sm_o1 {K N k M : Nat} {xs : List (Tw × Rat)} (h : Ok1 K N k M xs) (h0 : 0 < K) (hK : K ≤ 1000) (hk : k ≤ 200) (hM : M ≤ 10 ^ 6) {x : Tw × Rat} (hx : x ∈ xs) : sm x.2 := sz_sm (h.sz hx).2 h0 hK hk (Nat.le_trans hM (by decide))
theorem dW_ins (w : Bool) : decide (dW w = "insert") = w := by cases w <;> decide +kernel
theorem dW_rem (w : Bool) : decide (dW w = "remove") = !w := by cases w <;> decide +kernel
theorem dW_seek (w : Bool) : decide (dW w = "seek") = false := by cases w <;> decide +kernel
theorem dW_if (w : Bool) : decide (dW w = "if") = false := by cases w <;> decide +kernel
def S_lled (ds : List D) (e : D) : Prop := ∃ (T : Tw) (h : List Deed) (p : Rat) (c : Bool) (m : Int), ds = [.lst [stD (T, 1)], .lst (h.map dD), fr p, .tup (rl c m)] ∧ PlOk T h p m ∧ e = .lst ((h.foldl (lst1 p c m) [(T, 1)]).map stD)
theorem ok_law_led (T : Txt B.K mg) : FnOk B.P B.w B.K mg base CX0 6 T.law_led.f T.law_led.d p_law_led (PSp B.P B.w B.K S_lled) := by
  have G_law_put := ok_law_put (base := base) T
  have G_law_gone := ok_law_gone (base := base) T
  have G_law_product := ok_law_product (base := base) T
  refine fn_pure T.law_led.F sc_law_led (fun ds e h => by obtain ⟨_, _, _, _, _, rfl, _⟩ := h; rfl) fun pp cdv A outer s H E ds e hr hS => ⟨_, (pss_cons (ps_for PassesOwn.never rfl (k_list (K := B.K) rfl (pv 1)) (k_pg (K := B.K) (n := 2) rfl rfl (pgs_cons (pg_name (i := 4) sc_law_led.nd rfl (Or.inl rfl)) (pgs_cons (pg_name (i := 5) sc_law_led.nd rfl (Or.inl rfl)) pgs_nil))) (pss_cons (ps_set (i := 6) sc_law_led.nd rfl (Or.inl rfl) (pe_lst pa_nil)) (pss_cons (ps_for PassesOwn.never rfl (k_list (K := B.K) rfl (pv 0)) (k_pg (K := B.K) (n := 2) rfl rfl (pgs_cons (pg_name (i := 7) sc_law_led.nd rfl (Or.inl rfl)) (pgs_cons (pg_name (i := 8) sc_law_led.nd rfl (Or.inr rfl)) pgs_nil))) (pss_cons (ps_set (i := 9) sc_law_led.nd rfl (Or.inl rfl) (pe_lst (pa_cons (pe_tupF (pa_cons (pv 7) (pa_cons (pe_tupF (pa_cons pe_int (pa_cons pe_int pa_nil))) pa_nil))) pa_nil))) (pss_cons (ps_if (PW.pt (pw_and (pt_cmpR (k_eq (K := B.K) rfl hr.units) (pv 4) pe_str (nomark _)) (pw_and1 (pt_cmpR (k_ni (K := B.K) rfl (hu_of hr)) (pv 5) (pe_callTy (k_dictT (K := B.K) rfl rfl) (by rfl) T.m_dict (by decide +kernel) (pa_cons (pv 7) pa_nil)) (by rfl))))) (pss_one (ps_set (i := 9) sc_law_led.nd rfl (Or.inl rfl) (pe_call G_law_put (hr.mono (by decide)) (by rfl) T.law_put.g T.law_put.F.kp T.law_put.b .nil pass0 (pa_cons (pv 7) (pa_cons (pv 5) (pa_cons (pv 2) (pa_cons (pv 3) pa_nil))))))) pss_nil) (pss_cons (ps_if (pt_cmpR (k_eq (K := B.K) rfl hr.units) (pv 4) pe_str (nomark _)) (pss_one (ps_set (i := 9) sc_law_led.nd rfl (Or.inl rfl) (pe_lst (pa_cons (pe_tupF (pa_cons (pe_call G_law_gone (hr.mono (by decide)) (by rfl) T.law_gone.g T.law_gone.F.kp T.law_gone.b .nil pass0 (pa_cons (pv 7) (pa_cons (pv 5) pa_nil))) (pa_cons (pe_tupF (pa_cons pe_int (pa_cons pe_int pa_nil))) pa_nil))) pa_nil)))) pss_nil) (pss_one (ps_expr (k_bm (K := B.K) rfl PySem.F.plainAttrs_list PySem.F.slot_list_extend PySem.F.type_list_extend mt_extend (pv 6) (pa_cons (pe_lc (own := [("_law_last", 10), ("_law_share", 11)]) rfl sc_law_led.nd (k_list (K := B.K) rfl (pv 9)) (blkOk_by (own := [("_law_last", 10), ("_law_share", 11)]) (N := n_law_led) (sc := defScope s_law_led) (by decide +kernel)) (fun _ _ _ _ _ => (k_pg (K := B.K) (n := 2) rfl rfl (pgs_cons (pg_name (i := 10) sc_law_led.nd rfl (Or.inl rfl)) (pgs_cons (pg_name (i := 11) sc_law_led.nd rfl (Or.inl rfl)) pgs_nil)))) (fun _ _ _ _ _ => pts_nil) (fun _ _ _ _ _ => (pe_tupF (pa_cons (pv 10) (pa_cons (pe_call G_law_product (hr.mono (by decide)) (by rfl) T.law_product.g T.law_product.F.kp T.law_product.b .nil pass0 (pa_cons (pv 8) (pa_cons (pv 11) pa_nil))) pa_nil))))) pa_nil)))))))) (pss_one (ps_set (i := 0) sc_law_led.nd rfl (Or.inl rfl) (pv 6)))))) (pss_one (ps_ret (pv 0)))), ?_⟩
  obtain ⟨Tv, h, p, c, m, rfl, hp, rfl⟩ := hS
  have hc : ChR p := hp.2.2.2.1
  have m1 : 1 ≤ m := hp.2.2.2.2.1
  have m3 : m ≤ 3 := hp.2.2.2.2.2
  refine sg_ctx [some (.lst [stD (Tv, 1)]), some (.lst (h.map dD)), some (fr p), some (.tup (rl c m)), none, none, none, none, none, none, none, none] rfl ?_
  refine sg_seq (sg_for (wg_list (by walk_at "ev")) (fun j Γ => ∃ x4 x5 x6 x7 x8 x9 : Option D, Γ = [some (.lst (((h.take j).foldl (lst1 p c m) [(Tv, 1)]).map stD)), some (.lst (h.map dD)), some (fr p), some (.tup (rl c m)), x4, x5, x6, x7, x8, x9, none, none]) ⟨none, none, none, none, none, none, rfl⟩ ?_ ?_)
  · rintro j d Γ hd ⟨x4, x5, x6, x7, x8, x9, rfl⟩
    obtain ⟨⟨w, k⟩, hj, rfl⟩ := map_get hd
    obtain ⟨yo, yl⟩ := pl_states (c := c) hp j
    obtain ⟨zo, zl⟩ := pl_states (c := c) hp (j + 1)
    have ez : (h.take (j + 1)).foldl (lst1 p c m) [(Tv, 1)] = lst1 p c m ((h.take j).foldl (lst1 p c m) [(Tv, 1)]) (w, k) := by
      rw [List.take_add_one, hj, List.foldl_append]
      rfl
    rw [ez] at zo zl ⊢
    generalize (h.take j).foldl (lst1 p c m) [(Tv, 1)] = ys at yo yl zo zl ⊢
    refine ⟨_, _, gg_2, ?_⟩
    refine sg_open fun pa hpa => ?_
    have hR : ∀ (H : Hp) (v : V) (d : D), R ((B.at pp).op pa) H v d → R (B.at pp) H v d := fun _ _ _ r => r.shut
    refine si_for lj_stb op_pp (wg_list (by walk_at "ev")) (fun i Γ ds => ds = (lst1 p c m (ys.take i) (w, k)).map stD ∧ ∃ x7 x8 x9 : Option D, Γ = [some (.lst (ys.map stD)), some (.lst (h.map dD)), some (fr p), some (.tup (rl c m)), some (.str (dW w)), some (.int k), some (raw pa), x7, x8, x9, none, none]) ⟨rfl, x7, x8, x9, rfl⟩ ?_ ?_
    · clear x7 x8 x9
      rintro i d Γ ds hd ⟨rfl, x7, x8, x9, rfl⟩
      obtain ⟨⟨S, q⟩, hi, rfl⟩ := map_get hd
      have hx : (S, q) ∈ ys := List.mem_of_getElem? hi
      obtain ⟨s1, s2⟩ : Wk 16 S ∧ Sz p.den 6561 16 q := yo.sz hx
      obtain ⟨s3, s4⟩ := wk_ok s1 (by omega)
      have hsq := sm_o1 yo p.den_pos hc.2.2 (by omega) (by omega) hx
      obtain ⟨a1, a2⟩ := aft_ok (c := c) hc.le.1 hc.le.2 m1 m3 s1 (w, k)
      have a3 := aft_len3 (c := c) hc.le.1 hc.le.2 m1 m3 s1 (w, k)
      refine ⟨_, _, gg_2, ?_⟩
      refine si_seq (si_sg lj_stb hR (sg_asg (d := .lst [stD (S, 1)]) (eg_lst (ag_cons (eg_tup (ag_cons (by walk_at "ev") (ag_cons (eg_is (eg_tup (ag_cons eg_int (ag_cons eg_int ag_nil)) (le1000 rfl)) fr_one.symm) ag_nil)) (le1000 rfl)) ag_nil) (le1000 rfl)) ?_))
      dsimp only [liftO, thenI]
      refine si_seq (si_sg lj_stb hR (sg_ifset (i := 9) (d := .lst ((if (w && !decide (k ∈ S.map (·.1))) = true then frs S k p c m else [(S, 1)]).map stD)) (d0 := .lst [stD (S, 1)]) (tg_and (tg_is (tg_test (eg_eqStr (by walk_at "ev") (by walk_at "ev"))) (dW_ins w)) fun _ => tg_test (eg_niK (ks := S.map (·.1)) (k := k) (by walk_at "ev") (eg_bi (ag_cons (by walk_at "ev") ag_nil) (cg_dictT (srt1_nodup s3.1))))) (fun hb => ?_) rfl (fun hb => ?_) ?_))
      · rw [if_pos hb]
        have hk : k ∉ S.map (·.1) := by
          have := (Bool.and_eq_true _ _ ▸ hb).2
          simpa using this
        exact eg_call (by walk_at "av") ⟨S, k, p, c, m, rfl, s3, hk, hc, m1, m3, rfl⟩
      · rw [hb, if_neg Bool.false_ne_true]
        rfl
      dsimp only [liftO, thenI]
      refine si_seq (si_sg lj_stb hR (sg_ifset (i := 9) (d := .lst ((aft S (w, k) p c m).map stD)) (d0 := .lst ((if (w && !decide (k ∈ S.map (·.1))) = true then frs S k p c m else [(S, 1)]).map stD)) (tg_is (tg_test (eg_eqStr (by walk_at "ev") (by walk_at "ev"))) (dW_rem w)) (fun hb => ?_) rfl (fun hb => ?_) ?_))
      · have e : w = false := by simpa using hb
        subst e
        refine eg_is (eg_lst (ag_cons (eg_tup (ag_cons (eg_call (d := tw (del S k)) (by walk_at "av") ⟨S, k, rfl, s3.2.2, rfl⟩) (ag_cons (eg_is (eg_tup (ag_cons eg_int (ag_cons eg_int ag_nil)) (le1000 rfl)) fr_one.symm) ag_nil)) (le1000 rfl)) ag_nil) (le1000 rfl)) ?_
        exact rfl
      · have e : w = true := by simpa using hb
        subst e
        congr 2
        unfold aft
        rw [if_pos rfl, Bool.true_and]
        by_cases hk : k ∈ S.map (·.1)
        · rw [if_pos hk, if_neg (by rw [decide_eq_true hk]; decide)]
        · rw [if_neg hk, if_pos (by rw [decide_eq_false hk]; decide)]
      dsimp only [liftO, thenI]
      refine si_extend (i := 6) (es := (shd q (aft S (w, k) p c m)).map stD) rfl (eg_is (eg_lcAll (xs := aft S (w, k) p c m) (ee := stD) (js := [10] ++ ([11] ++ [])) (fun x => stD (x.1, q * x.2)) (wg_list (by walk_at "ev")) (by decide) (by omega) fun x hx => ⟨_, gg_2, eg_tup (ag_cons (by walk_at "ev") (ag_cons (eg_call (by walk_at "av") ⟨q, x.2, rfl, hsq, sz_sm (a1 x hx).2 p.den_pos hc.2.2 (by omega) (by decide), rfl⟩) ag_nil)) (le1000 rfl), fz_st (x.1, q * x.2)⟩) ?_) ?_ ?_
      · show D.lst _ = D.lst _
        unfold shd
        rw [List.map_map]
        rfl
      · obtain ⟨zs, hz⟩ := lst1_take (p := p) (c := c) (m := m) (d := (w, k)) ys i
        rw [hz, List.length_append] at zl
        rw [List.length_map, List.length_map]
        unfold shd
        rw [List.length_map]
        omega
      · refine ⟨?_, _, _, _, rfl⟩
        rw [lst1_snoc hi, List.map_append]
    · rintro Γ ds ⟨rfl, x7, x8, x9, rfl⟩
      rw [List.length_map, List.take_length]
      refine ⟨?_, rfl⟩
      refine sg_asg (by walk_at "ev") ?_
      exact ⟨_, _, _, _, _, _, rfl⟩
  · rintro Γ ⟨x4, x5, x6, x7, x8, x9, rfl⟩
    rw [List.length_map, List.take_length]
    exact sg_ret (by walk_at "ev") rfl
/-! the same, a dict -/
mutual
theorem nk_inj : ∀ d e : D, sk d = true → sk e = true → kb d = true → kb e = true → nk d = nk e → d = e
  | .non, .non, _, _, _, _, _ => rfl
  | .int _, .int _, _, _, _, _, h => by rw [nk, nk] at h; cases h; rfl
  | .str _, .str _, _, _, _, _, h => by rw [nk, nk] at h; cases h; rfl
  | .tup ds, .tup es, h1, h2, h3, h4, h => by
    rw [nk, nk] at h
    rw [sk] at h1 h2
    rw [kb] at h3 h4
    rw [nks_inj ds es h1 h2 h3 h4 (NestedKey.tup.inj h)]
  | .non, .int _, _, _, _, _, h => by rw [nk, nk] at h; cases h
  | .non, .str _, _, _, _, _, h => by rw [nk, nk] at h; cases h
  | .non, .tup _, _, _, _, _, h => by rw [nk, nk] at h; cases h
  | .int _, .non, _, _, _, _, h => by rw [nk, nk] at h; cases h
  | .int _, .str _, _, _, _, _, h => by rw [nk, nk] at h; cases h
  | .int _, .tup _, _, _, _, _, h => by rw [nk, nk] at h; cases h
  | .str _, .non, _, _, _, _, h => by rw [nk, nk] at h; cases h
  | .str _, .int _, _, _, _, _, h => by rw [nk, nk] at h; cases h
  | .str _, .tup _, _, _, _, _, h => by rw [nk, nk] at h; cases h
  | .tup _, .non, _, _, _, _, h => by rw [nk, nk] at h; cases h
  | .tup _, .int _, _, _, _, _, h => by rw [nk, nk] at h; cases h
  | .tup _, .str _, _, _, _, _, h => by rw [nk, nk] at h; cases h
  | .lst _, _, _, _, h, _, _ => by rw [kb] at h; cases h
  | .bl _, _, _, _, h, _, _ => by rw [kb] at h; cases h
  | .dk _, _, _, _, h, _, _ => by rw [kb] at h; cases h
  | .dn _, _, _, _, h, _, _ => by rw [kb] at h; cases h
  | .raw _, _, _, _, h, _, _ => by rw [kb] at h; cases h
  | .non, .lst _, _, _, _, h, _ => by rw [kb] at h; cases h
  | .non, .bl _, _, _, _, h, _ => by rw [kb] at h; cases h
  | .non, .dk _, _, _, _, h, _ => by rw [kb] at h; cases h
  | .non, .dn _, _, _, _, h, _ => by rw [kb] at h; cases h
  | .non, .raw _, _, _, _, h, _ => by rw [kb] at h; cases h
  | .int _, .lst _, _, _, _, h, _ => by rw [kb] at h; cases h
  | .int _, .bl _, _, _, _, h, _ => by rw [kb] at h; cases h
  | .int _, .dk _, _, _, _, h, _ => by rw [kb] at h; cases h
  | .int _, .dn _, _, _, _, h, _ => by rw [kb] at h; cases h
  | .int _, .raw _, _, _, _, h, _ => by rw [kb] at h; cases h
  | .str _, .lst _, _, _, _, h, _ => by rw [kb] at h; cases h
  | .str _, .bl _, _, _, _, h, _ => by rw [kb] at h; cases h
  | .str _, .dk _, _, _, _, h, _ => by rw [kb] at h; cases h
  | .str _, .dn _, _, _, _, h, _ => by rw [kb] at h; cases h
  | .str _, .raw _, _, _, _, h, _ => by rw [kb] at h; cases h
  | .tup _, .lst _, _, _, _, h, _ => by rw [kb] at h; cases h
  | .tup _, .bl _, _, _, _, h, _ => by rw [kb] at h; cases h
  | .tup _, .dk _, _, _, _, h, _ => by rw [kb] at h; cases h
  | .tup _, .dn _, _, _, _, h, _ => by rw [kb] at h; cases h
  | .tup _, .raw _, _, _, _, h, _ => by rw [kb] at h; cases h
theorem nks_inj : ∀ ds es : List D, sks ds = true → sks es = true → kbs ds = true → kbs es = true → nks ds = nks es → ds = es
  | [], [], _, _, _, _, _ => rfl
  | [], _ :: _, _, _, _, _, h => by rw [nks, nks] at h; cases h
  | _ :: _, [], _, _, _, _, h => by rw [nks, nks] at h; cases h
  | d :: ds, e :: es, h1, h2, h3, h4, h => by
    rw [nks, nks] at h
    rw [sks, Bool.and_eq_true] at h1 h2
    rw [kbs, Bool.and_eq_true] at h3 h4
    rw [nk_inj d e h1.1 h2.1 h3.1 h4.1 (List.cons.inj h).1, nks_inj ds es h1.2 h2.2 h3.2 h4.2 (List.cons.inj h).2]
end
theorem tws_k : ∀ T : Tw, sks (T.map pr) = true ∧ kbs (T.map pr) = true
  | [] => ⟨rfl, rfl⟩
  | p :: T => by
    obtain ⟨h1, h2⟩ := tws_k T
    rw [List.map_cons, sks, kbs, h1, h2]
    exact ⟨rfl, rfl⟩
theorem tw_k (T : Tw) : sk (tw T) = true ∧ kb (tw T) = true := by
  rw [sk, kb]
  exact tws_k T
theorem pr_inj : ∀ {S T : Tw}, S.map pr = T.map pr → S = T
  | [], [], _ => rfl
  | [], _ :: _, h => by cases h
  | _ :: _, [], h => by cases h
  | p :: S, q :: T, h => by
    obtain ⟨h1, h2⟩ := List.cons.inj h
    rw [pr_inj h2]
    obtain ⟨p1, p2⟩ := p
    obtain ⟨q1, q2⟩ := q
    cases h1
    rfl
theorem nk_tw {S T : Tw} : nk (tw S) = nk (tw T) ↔ S = T :=
  ⟨fun h => pr_inj (D.tup.inj (nk_inj _ _ (tw_k S).1 (tw_k T).1 (tw_k S).2 (tw_k T).2 h)), fun h => by rw [h]⟩
def getS (xs : List (Tw × Rat)) (T : Tw) : Rat := ((xs.find? fun x => decide (x.1 = T)).map (·.2)).getD 0
theorem dF_tw (xs : List (Tw × Rat)) (T : Tw) : dFind (xs.map kvD) (nk (tw T)) = (xs.find? fun x => decide (x.1 = T)).map fun x => fr x.2 := by
  unfold dFind
  rw [List.find?_map, Option.map_map]
  congr 1
  congr 1
  funext x
  simp only [Function.comp]
  by_cases h : x.1 = T
  · rw [decide_eq_true h, decide_eq_true (nk_tw.mpr h)]
  · rw [decide_eq_false h, decide_eq_false fun z => h (nk_tw.mp z)]
theorem dF_get (xs : List (Tw × Rat)) (T : Tw) : (dFind (xs.map kvD) (nk (tw T))).getD (fr 0) = fr (getS xs T) := by
  rw [dF_tw]
  unfold getS
  cases xs.find? fun x => decide (x.1 = T) <;> rfl
theorem addS_new {T : Tw} {q : Rat} : ∀ {xs : List (Tw × Rat)}, T ∉ xs.map (·.1) → addS xs T q = xs ++ [(T, 0 + q)]
  | [], _ => rfl
  | x :: xs, h => by
    rw [List.map_cons, List.mem_cons, not_or] at h
    unfold addS
    rw [if_neg (fun z => h.1 z.symm), addS_new h.2]
    rfl
theorem addS_old {T : Tw} {q : Rat} : ∀ {xs : List (Tw × Rat)}, (xs.map (·.1)).Nodup → T ∈ xs.map (·.1) → addS xs T q = xs.map fun x => if x.1 = T then (x.1, getS xs T + q) else x
  | [], _, h => absurd h List.not_mem_nil
  | x :: xs, n, h => by
    rw [List.map_cons, List.nodup_cons] at n
    unfold addS
    rw [List.map_cons]
    by_cases e : x.1 = T
    · subst e
      have eg : getS (x :: xs) x.1 = x.2 := by
        unfold getS
        rw [List.find?_cons, decide_eq_true rfl]
        rfl
      rw [if_pos rfl, if_pos rfl, eg]
      congr 1
      refine (List.map_id xs).symm.trans (List.map_congr_left fun y hy => ?_)
      have hne : ¬ y.1 = x.1 := fun z => n.1 (List.mem_map.mpr ⟨y, hy, z⟩)
      rw [if_neg hne]
      rfl
    · have h2 : T ∈ xs.map (·.1) := by
        rcases List.mem_cons.mp h with z | z
        · exact absurd z.symm e
        · exact z
      have eg : getS (x :: xs) T = getS xs T := by
        unfold getS
        rw [List.find?_cons, decide_eq_false e]
      rw [if_neg e, if_neg e, eg, addS_old n.2 h2]
theorem find_mem {xs : List (Tw × Rat)} {T : Tw} : (xs.find? fun x => decide (x.1 = T)).isSome = decide (T ∈ xs.map (·.1)) := by
  rw [Bool.eq_iff_iff, List.find?_isSome, decide_eq_true_iff, List.mem_map]
  constructor
  · intro h
    obtain ⟨x, hx, e⟩ := h
    exact ⟨x, hx, of_decide_eq_true e⟩
  · rintro ⟨x, hx, e⟩
    exact ⟨x, hx, decide_eq_true e⟩
theorem dP_add {xs : List (Tw × Rat)} {T : Tw} {q : Rat} (n : (xs.map (·.1)).Nodup) : dPut (xs.map kvD) (tw T) (fr (getS xs T + q)) = (addS xs T q).map kvD := by
  unfold dPut
  have e1 : (dFind (xs.map kvD) (nk (tw T))).isSome = decide (T ∈ xs.map (·.1)) := by
    rw [dF_tw, Option.isSome_map, find_mem]
  rw [e1]
  by_cases h : T ∈ xs.map (·.1)
  · rw [decide_eq_true h, if_pos rfl, addS_old n h, List.map_map, List.map_map]
    refine List.map_congr_left fun x hx => ?_
    simp only [Function.comp]
    by_cases e : x.1 = T
    · rw [if_pos e, if_pos (nk_tw.mpr e)]
    · rw [if_neg e, if_neg fun z => e (nk_tw.mp z)]
  · rw [decide_eq_false h, if_neg Bool.false_ne_true, addS_new h, List.map_append]
    have e2 : getS xs T = 0 := by
      unfold getS
      have z := find_mem (xs := xs) (T := T)
      rw [decide_eq_false h] at z
      cases y : xs.find? fun x => decide (x.1 = T) with
      | none => rfl
      | some x => rw [y] at z; cases z
    rw [e2]
    rfl
def adds (ys : List (Tw × Rat)) : List (Tw × Rat) := ys.foldl (fun a y => addS a y.1 y.2) []
theorem adds_snoc (ys : List (Tw × Rat)) (x : Tw × Rat) : adds (ys ++ [x]) = addS (adds ys) x.1 x.2 := by
  unfold adds
  rw [List.foldl_append]
  rfl
theorem getS_mem {xs : List (Tw × Rat)} {T : Tw} : getS xs T = 0 ∨ ∃ x ∈ xs, getS xs T = x.2 := by
  unfold getS
  cases h : xs.find? fun x => decide (x.1 = T) with
  | none => exact .inl rfl
  | some x => exact .inr ⟨x, List.mem_of_find?_eq_some h, rfl⟩
theorem tw_depth (T : Tw) : (nk (tw T)).depth ≤ 8 := by
  have h : ∀ T : Tw, NestedKey.depthAll (nks (T.map pr)) ≤ 1 := by
    intro T
    induction T with
    | nil => exact Nat.zero_le _
    | cons p T ih =>
      rw [List.map_cons, nks, NestedKey.depthAll]
      have : (nk (pr p)).depth = 1 := rfl
      omega
  have := h T
  rw [nk, NestedKey.depth]
  omega
theorem aft_app {ys : List (Tw × Rat)} {j : Nat} {x : Tw × Rat} (s : Rat) (h : ys[j]? = some x) : shd s (ys.take (j + 1)) = shd s (ys.take j) ++ [(x.1, s * x.2)] := by
  unfold shd
  rw [List.take_add_one, h, List.map_append]
  rfl
theorem ej_getN {pp : Addr → Prop} {p : Addr} {Γ : Gm} {i : Nat} {tk' tx' : TE} {xs : List (Tw × Rat)} {T : Tw} (hi : Γ[i]? = some (some (raw p))) (hk : EG ((B.at pp).op p) tk' Γ (tw T)) (hx : EG ((B.at pp).op p) tx' Γ (fr 0)) : EJ ((B.at pp).op p) (DJ (B.at pp) p) (tNdGet B (tVar i) tk' tx') Γ (xs.map kvD) (fr (getS xs T)) := fun σ H r j Q q => ev_getD (B := B.at pp) hi hk hx (tw_k T).2 (tw_depth T) σ H r j Q fun v H' e r' => q v H' e (by rw [← dF_get]; exact r')
theorem si_putN {pp : Addr → Prop} {p : Addr} {Γ : Gm} {i : Nat} {tk' tv : TE} {xs : List (Tw × Rat)} {T : Tw} {q : Rat} {Rr : Hp → V → D → Prop} {O : OutI (List (D × D)) → Prop} (hi : Γ[i]? = some (some (raw p))) (hv : EJ ((B.at pp).op p) (DJ (B.at pp) p) tv Γ (xs.map kvD) (fr (getS xs T + q))) (hk : EG ((B.at pp).op p) tk' Γ (tw T))
    (hn : (xs.map (·.1)).Nodup) (hl : xs.length < 100000) (o : O (.nx Γ ((addS xs T q).map kvD))) : SI ((B.at pp).op p) p Rr (DJ (B.at pp) p) (tAsg tv (gSub (tVar i) tk' (rSetN B))) Γ (xs.map kvD) O :=
  si_putD (B := B.at pp) (ds := T.map pr) (vd := fr (getS xs T + q)) hi hv hk (tw_k T).2 (tw_depth T) (by rw [List.length_map]; exact hl) (by rw [← dP_add hn] at o; exact o)
def S_behind (ds : List D) (e : D) : Prop := ∃ (xs : List (Tw × Rat)) (d : Deed) (p : Rat) (c : Bool) (m : Int), ds = [.dn (xs.map kvD), dD d, fr p, .tup (rl c m)] ∧ Ok1 p.den 16 16 6561 xs ∧ xs.length ≤ 81 ∧ Ok1 p.den 17 18 19683 (lst1 p c m xs d) ∧ (lst1 p c m xs d).length ≤ 243 ∧ ChR p ∧ 1 ≤ m ∧ m ≤ 3 ∧ e = .dn ((dst1 p c m xs d).map kvD)
theorem ok_behind_act (T : Txt B.K mg) : FnOk B.P B.w B.K mg base CX0 8 T.behind_act.f T.behind_act.d p_behind_act (PSp B.P B.w B.K S_behind) := by
  have G_after := ok_after (base := base) T
  have G_plus := ok_plus (base := base) T
  have G_times := ok_times (base := base) T
  refine fn_pure T.behind_act.F sc_behind_act (fun ds e h => by obtain ⟨_, _, _, _, _, rfl, _⟩ := h; rfl) fun pp cdv A outer s H E ds e hr hS => ⟨_, (pss_cons (ps_if (pt_cmpR (k_eq (K := B.K) rfl hr.units) (pe_ix (k_ix (K := B.K) rfl) (pv 1) pe_int (fun _ _ => rfl)) pe_str (nomark _)) (pss_one (ps_ret (pv 0))) pss_nil) (pss_cons (ps_if (pt_cmpR (k_eq (K := B.K) rfl hr.units) (pe_ix (k_ix (K := B.K) rfl) (pv 1) pe_int (fun _ _ => rfl)) pe_str (nomark _)) pss_never pss_nil) (pss_cons (ps_set (i := 6) sc_behind_act.nd rfl (Or.inl rfl) (pe_dnew (B := B) rfl rfl)) (pss_cons (ps_for PassesOwn.never rfl (k_itemsN (B := B) rfl rfl rfl (pv 0)) (k_pg (K := B.K) (n := 2) rfl rfl (pgs_cons (pg_name (i := 7) sc_behind_act.nd rfl (Or.inl rfl)) (pgs_cons (pg_name (i := 8) sc_behind_act.nd rfl (Or.inl rfl)) pgs_nil))) (pss_one (ps_for PassesOwn.never rfl (k_list (K := B.K) rfl (pe_call G_after (hr.mono (by decide)) (by rfl) T.after.g T.after.F.kp T.after.b .nil pass0 (pa_cons (pv 7) (pa_cons (pv 1) (pa_cons (pv 2) (pa_cons (pv 3) pa_nil)))))) (k_pg (K := B.K) (n := 2) rfl rfl (pgs_cons (pg_name (i := 9) sc_behind_act.nd rfl (Or.inl rfl)) (pgs_cons (pg_name (i := 10) sc_behind_act.nd rfl (Or.inl rfl)) pgs_nil))) (pss_one (ps_asg (pe_call G_plus (hr.mono (by decide)) (by rfl) T.plus.g T.plus.F.kp T.plus.b .nil pass0 (pa_cons (pe_ndget2 (B := B) rfl rfl rfl hr.units (pv 6) (pv 9) (pe_tupF (pa_cons pe_int (pa_cons pe_int pa_nil))) ⟨rfl, rfl, rfl, rfl⟩) (pa_cons (pe_call G_times (hr.mono (by decide)) (by rfl) T.times.g T.times.F.kp T.times.b .nil pass0 (pa_cons (pv 8) (pa_cons (pv 10) pa_nil))) pa_nil))) (pg_sub (pv 6) (pv 9) (set_nd (B := B) rfl rfl rfl hr.units))))))) (pss_one (ps_ret (pv 6))))))), ?_⟩
  obtain ⟨xs, ⟨w, k⟩, p, c, m, rfl, ho, hl, hlo, hll, hc, m1, m3, rfl⟩ := hS
  refine sg_ctx [some (.dn (xs.map kvD)), some (dD (w, k)), some (fr p), some (.tup (rl c m)), none, none, none, none, none, none, none] rfl ?_
  refine sg_seq (sg_if (tg_is (tg_test (eg_eqStr (eg_ixT (d := .str (dW w)) (by walk_at "ev") (by walk_at "ev") rfl) (by walk_at "ev"))) (dW_seek w)) (fun h => absurd h Bool.false_ne_true) fun _ => sg_next ?_)
  refine sg_seq (sg_if (tg_is (tg_test (eg_eqStr (eg_ixT (d := .str (dW w)) (by walk_at "ev") (by walk_at "ev") rfl) (by walk_at "ev"))) (dW_if w)) (fun h => absurd h Bool.false_ne_true) fun _ => sg_next ?_)
  refine sg_openD fun pa hpa => ?_
  have hw := wg_items (B := (B.at pp).op pa) (Γ := (([some (.dn (xs.map kvD)), some (dD (w, k)), some (fr p), some (.tup (rl c m)), none, none, none, none, none, none, none] : Gm).set 6 (some (raw pa)))) (td := tVar 0) (kvs := xs.map kvD) (eg_var rfl)
  refine si_for dj_stb op_pp hw (fun i Γ kv => kv = (adds (lst1 p c m (xs.take i) (w, k))).map kvD ∧ ∃ x7 x8 x9 x10 : Option D, Γ = [some (.dn (xs.map kvD)), some (dD (w, k)), some (fr p), some (.tup (rl c m)), none, none, some (raw pa), x7, x8, x9, x10]) ⟨rfl, none, none, none, none, rfl⟩ ?_ ?_
  · rintro i d Γ kv hd ⟨rfl, x7, x8, x9, x10, rfl⟩
    rw [List.map_map] at hd
    obtain ⟨⟨S, q⟩, hi, rfl⟩ := map_get hd
    have hx : (S, q) ∈ xs := List.mem_of_getElem? hi
    obtain ⟨s1, s2⟩ : Wk 16 S ∧ Sz p.den 6561 16 q := ho.sz hx
    obtain ⟨s3, s4⟩ := wk_ok s1 (by omega)
    have hsq := sm_o1 ho p.den_pos hc.2.2 (by omega) (by omega) hx
    obtain ⟨a1, a2⟩ := aft_ok (c := c) hc.le.1 hc.le.2 m1 m3 s1 (w, k)
    refine ⟨_, _, gg_2, ?_⟩
    refine si_for dj_stb op_pp (wg_list (eg_call (d := .lst ((aft S (w, k) p c m).map stD)) (by walk_at "av") ⟨S, (w, k), false, false, c, p.num, p.den, m, rfl, s3, hc.ok, m1, m3, by rw [ch_self]⟩)) (fun j Γ kv => kv = (adds (lst1 p c m (xs.take i) (w, k) ++ shd q ((aft S (w, k) p c m).take j))).map kvD ∧ ∃ x9 x10 : Option D, Γ = [some (.dn (xs.map kvD)), some (dD (w, k)), some (fr p), some (.tup (rl c m)), none, none, some (raw pa), some (tw S), some (fr q), x9, x10]) ⟨by show _ = (adds (_ ++ [])).map kvD; rw [List.append_nil], x9, x10, rfl⟩ ?_ ?_
    · clear x7 x8 x9 x10
      rintro j d Γ kv hd ⟨rfl, x9, x10, rfl⟩
      obtain ⟨⟨U, r⟩, hj, rfl⟩ := map_get hd
      have hu : (U, r) ∈ aft S (w, k) p c m := List.mem_of_getElem? hj
      obtain ⟨u1, u2⟩ : Wk 17 U ∧ Sz p.den 1 2 r := a1 _ hu
      refine ⟨_, _, gg_2, ?_⟩
      have e1 := aft_app q hj
      have e2 : ∃ zs, lst1 p c m xs (w, k) = (lst1 p c m (xs.take i) (w, k) ++ shd q ((aft S (w, k) p c m).take j)) ++ zs := by
        obtain ⟨zs, hz⟩ := lst1_take (p := p) (c := c) (m := m) (d := (w, k)) xs (i + 1)
        rw [lst1_snoc hi] at hz
        refine ⟨shd q ((aft S (w, k) p c m).drop j) ++ zs, ?_⟩
        rw [hz]
        have e3 : shd q (aft S (w, k) p c m) = shd q ((aft S (w, k) p c m).take j) ++ shd q ((aft S (w, k) p c m).drop j) := by
          unfold shd
          rw [← List.map_append, List.take_append_drop]
        show _ ++ shd q (aft S (w, k) p c m) ++ zs = _
        rw [e3]
        simp only [List.append_assoc]
      rw [e1, ← List.append_assoc, adds_snoc]
      obtain ⟨zs, hz⟩ := e2
      generalize lst1 p c m (xs.take i) (w, k) ++ shd q ((aft S (w, k) p c m).take j) = ys at hz ⊢
      have hys : Ok1 p.den 17 18 19683 ys := by rw [hz] at hlo; exact hlo.pre
      have hyl : ys.length ≤ 243 := by rw [hz, List.length_append] at hll; omega
      have hya : Ok1 p.den 17 18 19683 (adds ys) := hys.fold p.den_pos
      have hyn : ((adds ys).map (·.1)).Nodup := fold_nodup ys List.Pairwise.nil
      have hyc : (adds ys).length ≤ 243 := by
        have := fold_len ys []
        rw [List.length_nil, Nat.zero_add] at this
        exact Nat.le_trans this hyl
      have sg : sm (getS (adds ys) U) := by
        rcases getS_mem (xs := adds ys) (T := U) with z | ⟨x, hx, z⟩
        · rw [z]; exact ⟨by decide, by decide⟩
        · rw [z]; exact sm_o1 hya p.den_pos hc.2.2 (by omega) (by omega) hx
      have sr : sm r := sz_sm u2 p.den_pos hc.2.2 (by omega) (by decide)
      have sqr : sm (q * r) := sz_sm (s2.mul u2) p.den_pos hc.2.2 (by omega) (by decide)
      refine si_putN (T := U) (q := q * r) (xs := adds ys) rfl (ej_call (aj_cons dj_stb (ej_getN (T := U) rfl (by walk_at "ev") (eg_is (eg_tup (ag_cons eg_int (ag_cons eg_int ag_nil)) (le1000 rfl)) fr_zero.symm)) (aj_of (ag_cons (eg_call (by walk_at "av") ⟨q, r, rfl, hsq, sr, rfl⟩) ag_nil))) ⟨_, _, rfl, sg, sqr, rfl⟩) (by walk_at "ev") hyn (by omega) ?_
      exact ⟨rfl, _, _, rfl⟩
    · rintro Γ kv ⟨rfl, x9, x10, rfl⟩
      rw [List.length_map, List.take_length]
      refine ⟨?_, _, _, _, _, rfl⟩
      rw [lst1_snoc hi]
  · rintro Γ kv ⟨rfl, x7, x8, x9, x10, rfl⟩
    rw [List.length_map, List.length_map, List.take_length]
    refine ⟨?_, rfl⟩
    exact sg_ret (by walk_at "ev") rfl
def S_led (ds : List D) (e : D) : Prop := ∃ (T : Tw) (h : List Deed) (p : Rat) (c : Bool) (m : Int), ds = [.dn [kvD (T, 1)], .lst (h.map dD), fr p, .tup (rl c m)] ∧ PlOk T h p m ∧ e = .dn ((h.foldl (dst1 p c m) [(T, 1)]).map kvD)
theorem ok_led (T : Txt B.K mg) : FnOk B.P B.w B.K mg base CX0 9 T.led.f T.led.d p_led (PSp B.P B.w B.K S_led) := by
  have G_behind_act := ok_behind_act (base := base) T
  refine fn_pure T.led.F sc_led (fun ds e h => by obtain ⟨_, _, _, _, _, rfl, _⟩ := h; rfl) fun pp cdv A outer s H E ds e hr hS => ⟨_, (pss_cons (ps_for PassesOwn.never rfl (k_list (K := B.K) rfl (pv 1)) (pg_name (i := 4) sc_led.nd rfl (Or.inl rfl)) (pss_cons (ps_set (i := 0) sc_led.nd rfl (Or.inl rfl) (pe_call G_behind_act (hr.mono (by decide)) (by rfl) T.behind_act.g T.behind_act.F.kp T.behind_act.b .nil pass0 (pa_cons (pv 0) (pa_cons (pv 4) (pa_cons (pv 2) (pa_cons (pv 3) pa_nil)))))) (pss_one (ps_if (pt_cmpR op_gt (pe_callB (call_lenN (B := B) rfl rfl rfl) (by rfl) T.m_len (by decide +kernel) (pa_cons (pv 0) pa_nil)) (pe_glob (by rfl) T.c_MOST_TOWERS.g T.c_MOST_TOWERS.r) (nomark _)) pss_never pss_nil)))) (pss_one (ps_ret (pv 0)))), ?_⟩
  obtain ⟨Tv, h, p, c, m, rfl, hp, rfl⟩ := hS
  have hc : ChR p := hp.2.2.2.1
  have m1 : 1 ≤ m := hp.2.2.2.2.1
  have m3 : m ≤ 3 := hp.2.2.2.2.2
  refine sg_ctx [some (.dn [kvD (Tv, 1)]), some (.lst (h.map dD)), some (fr p), some (.tup (rl c m)), none] rfl ?_
  refine sg_seq (sg_for (wg_list (by walk_at "ev")) (fun j Γ => ∃ x4 : Option D, Γ = [some (.dn (((h.take j).foldl (dst1 p c m) [(Tv, 1)]).map kvD)), some (.lst (h.map dD)), some (fr p), some (.tup (rl c m)), x4]) ⟨none, rfl⟩ ?_ ?_)
  · rintro j d Γ hd ⟨x4, rfl⟩
    obtain ⟨⟨w, k⟩, hj, rfl⟩ := map_get hd
    obtain ⟨yo, yl, yn⟩ := pl_statesD (c := c) hp j
    obtain ⟨zo, zl, zn⟩ := pl_statesD (c := c) hp (j + 1)
    have ez : (h.take (j + 1)).foldl (dst1 p c m) [(Tv, 1)] = dst1 p c m ((h.take j).foldl (dst1 p c m) [(Tv, 1)]) (w, k) := by
      rw [List.take_add_one, hj, List.foldl_append]
      rfl
    rw [ez] at zo zl zn ⊢
    generalize (h.take j).foldl (dst1 p c m) [(Tv, 1)] = ys at yo yl yn zo zl zn ⊢
    obtain ⟨lo, ll⟩ := lst1_ok (c := c) hc.le.1 hc.le.2 m1 m3 yo (w, k)
    have ll2 : (lst1 p c m ys (w, k)).length ≤ 243 := by
      refine Nat.le_trans ll (Nat.le_trans (Nat.mul_le_mul (?_ : _ ≤ 3) yl) (by decide))
      split <;> omega
    refine ⟨_, _, gg_name, ?_⟩
    refine sg_seq (sg_asg (eg_call (by walk_at "av") ⟨ys, (w, k), p, c, m, rfl, yo, yl, lo.mono (by omega) (by omega) (by omega), ll2, hc, m1, m3, rfl⟩) ?_)
    refine sg_if (tg_is (tg_test (eg_gt (eg_bi (by walk_at "av") cg_lenN) (by walk_at "ev"))) (c := false) ?_) (fun h => absurd h Bool.false_ne_true) fun _ => sg_next ⟨_, rfl⟩
    rw [List.length_map]
    exact decide_eq_false (by omega)
  · rintro Γ ⟨x4, rfl⟩
    rw [List.length_map, List.take_length]
    exact sg_ret (by walk_at "ev") rfl
end
end Tl
end
section
set_option Elab.async false
set_option linter.all false
set_option maxRecDepth 100000
set_option maxHeartbeats 2000000
set_option autoImplicit false
set_option exponentiation.threshold 10000

/-! The law's values. -/
namespace Tl
open PySem PySem.Spec PyProof.Rows L2
local macro_rules | `(tactic| walk_at "ev") => `(tactic| first
  | ((with_reducible refine' eg_var ?k1); (case k1 => exact rfl))
  | with_reducible exact eg_int
  | with_reducible exact eg_str
  | with_reducible exact eg_bl
  | with_reducible exact eg_non
  | ((with_reducible refine' eg_sub ?k1 ?k2); (case k1 => walk_at "ev"); (case k2 => walk_at "ev"))
  | ((with_reducible refine' eg_add ?k1 ?k2); (case k1 => walk_at "ev"); (case k2 => walk_at "ev"))
  | ((with_reducible refine' eg_lt ?k1 ?k2); (case k1 => walk_at "ev"); (case k2 => walk_at "ev"))
  | ((with_reducible refine' eg_le ?k1 ?k2); (case k1 => walk_at "ev"); (case k2 => walk_at "ev"))
  | ((with_reducible refine' eg_gt ?k1 ?k2); (case k1 => walk_at "ev"); (case k2 => walk_at "ev"))
  | ((with_reducible refine' eg_ge ?k1 ?k2); (case k1 => walk_at "ev"); (case k2 => walk_at "ev"))
  | ((with_reducible refine' eg_neg ?k1); (case k1 => walk_at "ev"))
  | ((with_reducible refine' eg_ixT ?k1 ?k2 ?k3); (case k1 => walk_at "ev"); (case k2 => walk_at "ev"); (case k3 => exact rfl))
  | ((with_reducible refine' eg_ixL ?k1 ?k2 ?k3); (case k1 => walk_at "ev"); (case k2 => walk_at "ev"); (case k3 => exact rfl))
  | ((with_reducible refine' eg_tup ?k1 ?k2); (case k1 => walk_at "av"); (case k2 => exact le1000 rfl))
  | ((with_reducible refine' eg_lst ?k1 ?k2); (case k1 => walk_at "av"); (case k2 => exact le1000 rfl))
  | ((with_reducible refine' eg_isN ?k1 ?k2); (case k1 => walk_at "ev"); (case k2 => exact rfl))
  | ((with_reducible refine' eg_notN ?k1 ?k2); (case k1 => walk_at "ev"); (case k2 => exact rfl))
  | ((with_reducible refine' eg_eqI ?k1 ?k2); (case k1 => walk_at "ev"); (case k2 => walk_at "ev"))
  | ((with_reducible refine' eg_eqStr ?k1 ?k2); (case k1 => walk_at "ev"); (case k2 => walk_at "ev"))
  | assumption)
local macro_rules | `(tactic| walk_at "av") => `(tactic| first
  | with_reducible exact ag_nil
  | ((with_reducible refine' ag_cons ?k1 ?k2); (case k1 => walk_at "ev"); (case k2 => walk_at "av")))
local macro_rules | `(tactic| walk_at "tv") => `(tactic| first
  | ((with_reducible refine' tg_test ?k1); (case k1 => walk_at "ev"))
  | ((with_reducible refine' tg_B ?k1); (case k1 => walk_at "ev"))
  | ((with_reducible refine' tg_not ?k1); (case k1 => walk_at "tv")))
local macro_rules | `(tactic| walk_at "nm") => `(tactic| first | dsimp only [cxOf] | skip)

section
variable {B : Bs} {mg : Str → Option Value} {base : Heap}
def odD : Option Deed → D
  | none => .non
  | some d => dD d
def vlD (x : Rat × Option Deed) : D := .tup [fr x.1, odD x.2]
theorem pk_snoc (f : Deed → Rat) (d : Deed) : ∀ (ds : List Deed) (a : Rat × Option Deed), pk f (ds ++ [d]) a = if (pk f ds a).1 < f d then (f d, some d) else pk f ds a
  | [], a => rfl
  | e :: ds, a => pk_snoc f d ds _
/-- what the values need -/
def VOk (N n : Nat) (T : Tw) (own : List Int) (m : Str) (p : Rat) (mm : Int) : Prop := Wk N T ∧ N + n ≤ 12 ∧ n ≤ 9 ∧ own.length ≤ 10 ∧ ManOk m ∧ ChR p ∧ 1 ≤ mm ∧ mm ≤ 3
def LL (own : List Int) (T : Tw) (n : Nat) : List Deed := if n = 0 then [] else dds own T
def ff (g : Int) (m : Str) (own : List Int) (p : Rat) (c : Bool) (mm : Int) (n : Nat) (T : Tw) (d : Deed) : Rat := mn (fun S => (vl (cN g m) own p c mm (n - 1) S).1) (aft T d p c mm)
theorem vl_LL (g : Int) (m : Str) (own : List Int) (p : Rat) (c : Bool) (mm : Int) (n : Nat) (T : Tw) : vl (cN g m) own p c mm n T = pk (ff g m own p c mm n T) (LL own T n) (((cN g m T : Nat) : Rat), none) := by
  cases n with
  | zero => rfl
  | succ n => rfl
theorem vl_s {N n : Nat} {T : Tw} {own : List Int} {g : Int} {m : Str} {p : Rat} {c : Bool} {mm : Int} (h : VOk N n T own m p mm) : Sz p.den (3 ^ 9 * 16) 18 (vl (cN g m) own p c mm n T).1 := by
  obtain ⟨w, h1, h2, _, _, hc, m1, m3⟩ := h
  refine (vl_sz cN_le hc.le.1 hc.le.2 m1 m3 n N T w).mono ?_ (by omega)
  exact Nat.mul_le_mul (Nat.pow_le_pow_right (by omega) h2) (by omega)
theorem VOk.next {N n : Nat} {T : Tw} {own : List Int} {m : Str} {p : Rat} {c : Bool} {mm : Int} (h : VOk N (n + 1) T own m p mm) {d : Deed} {x : Tw × Rat} (hx : x ∈ aft T d p c mm) : VOk (N + 1) n x.1 own m p mm ∧ Sz p.den 1 2 x.2 := by
  obtain ⟨w, h1, h2, h3, h4, hc, m1, m3⟩ := h
  obtain ⟨a1, _⟩ := aft_ok (c := c) hc.le.1 hc.le.2 m1 m3 w d
  exact ⟨⟨(a1 x hx).1, by omega, by omega, h3, h4, hc, m1, m3⟩, (a1 x hx).2⟩
theorem term_s {N n : Nat} {T : Tw} {own : List Int} {g : Int} {m : Str} {p : Rat} {c : Bool} {mm : Int} (h : VOk N (n + 1) T own m p mm) {d : Deed} {x : Tw × Rat} (hx : x ∈ aft T d p c mm) : Sz p.den (1 * (3 ^ 9 * 16)) (2 + 18) (x.2 * (vl (cN g m) own p c mm n x.1).1) :=
  (h.next hx).2.mul (vl_s (h.next hx).1)
theorem ff_s {N n : Nat} {T : Tw} {own : List Int} {g : Int} {m : Str} {p : Rat} {c : Bool} {mm : Int} (h : VOk N (n + 1) T own m p mm) (d : Deed) : Sz p.den (3 * (1 * (3 ^ 9 * 16))) (2 + 18) (ff g m own p c mm (n + 1) T d) := by
  obtain ⟨w, h1, h2, h3, h4, hc, m1, m3⟩ := h
  have a3 := aft_len3 (c := c) hc.le.1 hc.le.2 m1 m3 w d
  have z := Sz.sum (K := p.den) p.den_pos (qs := (aft T d p c mm).map fun x => x.2 * (vl (cN g m) own p c mm n x.1).1) (N := 1 * (3 ^ 9 * 16)) (k := 2 + 18) (by
    intro q hq
    obtain ⟨x, hx, rfl⟩ := List.mem_map.mp hq
    exact term_s (N := N) ⟨w, h1, h2, h3, h4, hc, m1, m3⟩ hx)
  rw [List.length_map] at z
  exact z.mono (Nat.mul_le_mul_right _ a3) (Nat.le_refl _)
theorem pk_s {N n : Nat} {T : Tw} {own : List Int} {g : Int} {m : Str} {p : Rat} {c : Bool} {mm : Int} (h : VOk N (n + 1) T own m p mm) (ds : List Deed) : Sz p.den (3 * (1 * (3 ^ 9 * 16))) (2 + 18) (pk (ff g m own p c mm (n + 1) T) ds (((cN g m T : Nat) : Rat), none)).1 := by
  rcases pk_is (ff g m own p c mm (n + 1) T) ds (((cN g m T : Nat) : Rat), none) with e | ⟨d, _, e⟩
  · rw [e]
    have z := cN_le (key := g) (m := m) N T h.1
    have z2 := h.2.1
    exact (Sz.nat p.den _).mono (by omega) (by omega)
  · rw [e]; exact ff_s h d
theorem dds_len (own : List Int) (T : Tw) : (dds own T).length ≤ 2 * own.length := by
  unfold dds
  rw [List.length_append, List.length_map, List.length_map]
  have h1 := List.length_filter_le (fun k => decide (k ∉ T.map (·.1))) own
  have h2 := List.length_filter_le (fun k => decide (k ∈ T.map (·.1))) own
  omega
def SvL (L : Nat) (ds : List D) (e : D) : Prop := ∃ (T : Tw) (own : List Int) (n : Nat) (g : Int) (m : Str) (p : Rat) (c : Bool) (mm : Int) (N : Nat), n < L ∧ ds = [tw T, .lst (own.map D.int), .int (n : Nat), .int g, .str m, fr p, .tup (rl c mm)] ∧ VOk N n T own m p mm ∧ e = vlD (vl (cN g m) own p c mm n T)
theorem ok_law_value (T : Txt B.K mg) : ∀ L : Nat, FnOk B.P B.w B.K mg base CX0 (7 + L) T.law_value.f T.law_value.d p_law_value (PSp B.P B.w B.K (SvL L))
  | 0 => fn_pure (k := 6) T.law_value.F sc_law_value (fun ds e h => by obtain ⟨_, _, _, _, _, _, _, _, _, h, _⟩ := h; omega) fun pp cdv A outer s H E ds e hr hS => by obtain ⟨_, _, _, _, _, _, _, _, _, h, _⟩ := hS; omega
  | L + 1 => by
    have G_law_value := ok_law_value T L
    have G_law_compares := ok_law_compares (base := base) T
    have G_law_put := ok_law_put (base := base) T
    have G_law_gone := ok_law_gone (base := base) T
    have G_law_product := ok_law_product (base := base) T
    have G_law_sum := ok_law_sum (base := base) T
    have G_law_less := ok_law_less (base := base) T
    refine fn_pure (k := 7 + L) T.law_value.F sc_law_value (fun ds e h => by obtain ⟨_, _, _, _, _, _, _, _, _, _, rfl, _⟩ := h; rfl) fun pp cdv A outer s H E ds e hr hS => ⟨_, (pss_cons (ps_par (i := 7) (j := 8) rfl sc_law_value.nd rfl rfl (by decide) rfl rfl (pa_cons (pe_tupF (pa_cons (pe_call G_law_compares (hr.mono (by omega)) (by rfl) T.law_compares.g T.law_compares.F.kp T.law_compares.b .nil pass0 (pa_cons (pv 0) (pa_cons (pv 3) (pa_cons (pv 4) pa_nil)))) (pa_cons pe_int pa_nil))) (pa_cons pe_non pa_nil)) (by rfl)) (pss_cons (ps_setLc (i := 9) (own := [("_law_name", 11)]) rfl sc_law_value.nd rfl rfl (sw_true rfl rfl rfl (by decide +kernel)) (k_list (K := B.K) rfl (pv 1)) (blkOk_by (own := [("_law_name", 11)]) (N := n_law_value) (sc := defScope s_law_value) (by decide +kernel)) (fun _ _ _ _ _ => (pg_name (i := 11) sc_law_value.nd rfl (Or.inl rfl))) (fun _ _ _ _ _ => (pts_one (pt_cmpR (k_ni (K := B.K) rfl (hu_of hr)) (pv 11) (pe_callTy (k_dictT (K := B.K) rfl rfl) (by rfl) T.m_dict (by decide +kernel) (pa_cons (pv 0) pa_nil)) (by rfl)))) (fun _ _ _ _ _ => (pe_tupF (pa_cons pe_str (pa_cons (pv 11) pa_nil))))) (pss_cons (ps_set (i := 9) sc_law_value.nd rfl (Or.inl rfl) (pe_op (k_add (K := B.K) rfl) (pv 9) (pe_lc (own := [("_law_name", 11)]) rfl sc_law_value.nd (k_list (K := B.K) rfl (pv 1)) (blkOk_by (own := [("_law_name", 11)]) (N := n_law_value) (sc := defScope s_law_value) (by decide +kernel)) (fun _ _ _ _ _ => (pg_name (i := 11) sc_law_value.nd rfl (Or.inl rfl))) (fun _ _ _ _ _ => (pts_one (pt_cmpR (k_in (K := B.K) rfl (hu_of hr)) (pv 11) (pe_callTy (k_dictT (K := B.K) rfl rfl) (by rfl) T.m_dict (by decide +kernel) (pa_cons (pv 0) pa_nil)) (by rfl)))) (fun _ _ _ _ _ => (pe_tupF (pa_cons pe_str (pa_cons (pv 11) pa_nil))))))) (pss_cons (ps_for PassesOwn.never rfl (k_list (K := B.K) rfl (pe_ifExp (pt_cmpR op_gt (pv 2) pe_int (nomark _)) (pv 9) (pe_lst pa_nil))) (k_pg (K := B.K) (n := 2) rfl rfl (pgs_cons (pg_name (i := 10) sc_law_value.nd rfl (Or.inl rfl)) (pgs_cons (pg_name (i := 11) sc_law_value.nd rfl (Or.inl rfl)) pgs_nil))) (pss_cons (ps_set (i := 12) sc_law_value.nd rfl (Or.inl rfl) (pe_ifExp (pt_cmpR (k_eq (K := B.K) rfl hr.units) (pv 10) pe_str (nomark _)) (pe_call G_law_put (hr.mono (by omega)) (by rfl) T.law_put.g T.law_put.F.kp T.law_put.b .nil pass0 (pa_cons (pv 0) (pa_cons (pv 11) (pa_cons (pv 5) (pa_cons (pv 6) pa_nil))))) (pe_lst (pa_cons (pe_tupF (pa_cons (pe_call G_law_gone (hr.mono (by omega)) (by rfl) T.law_gone.g T.law_gone.F.kp T.law_gone.b .nil pass0 (pa_cons (pv 0) (pa_cons (pv 11) pa_nil))) (pa_cons (pe_tupF (pa_cons pe_int (pa_cons pe_int pa_nil))) pa_nil))) pa_nil)))) (pss_cons (ps_set (i := 13) sc_law_value.nd rfl (Or.inl rfl) (pe_lst pa_nil)) (pss_cons (ps_for PassesOwn.never rfl (k_list (K := B.K) rfl (pv 12)) (k_pg (K := B.K) (n := 2) rfl rfl (pgs_cons (pg_name (i := 14) sc_law_value.nd rfl (Or.inl rfl)) (pgs_cons (pg_name (i := 15) sc_law_value.nd rfl (Or.inl rfl)) pgs_nil))) (pss_one (ps_expr (k_bm (K := B.K) rfl PySem.F.plainAttrs_list PySem.F.slot_list_append PySem.F.type_list_append mt_append (pv 13) (pa_cons (pe_call G_law_product (hr.mono (by omega)) (by rfl) T.law_product.g T.law_product.F.kp T.law_product.b .nil pass0 (pa_cons (pv 15) (pa_cons (pe_ix (k_ix (K := B.K) rfl) (pe_call G_law_value (hr.mono (by omega)) (by rfl) T.law_value.g T.law_value.F.kp T.law_value.b .nil pass0 (pa_cons (pv 14) (pa_cons (pv 1) (pa_cons (pe_op op_sub (pv 2) pe_int) (pa_cons (pv 3) (pa_cons (pv 4) (pa_cons (pv 5) (pa_cons (pv 6) pa_nil)))))))) pe_int (fun _ _ => rfl)) pa_nil))) pa_nil))))) (pss_cons (ps_set (i := 16) sc_law_value.nd rfl (Or.inl rfl) (pe_call G_law_sum (hr.mono (by omega)) (by rfl) T.law_sum.g T.law_sum.F.kp T.law_sum.b .nil pass0 (pa_cons (pv 13) pa_nil))) (pss_one (ps_if (pt_val (pe_call G_law_less (hr.mono (by omega)) (by rfl) T.law_less.g T.law_less.F.kp T.law_less.b .nil pass0 (pa_cons (pv 7) (pa_cons (pv 16) pa_nil)))) (pss_one (ps_par (i := 7) (j := 8) rfl sc_law_value.nd rfl rfl (by decide) rfl rfl (pa_cons (pv 16) (pa_cons (pe_tupF (pa_cons (pv 10) (pa_cons (pv 11) pa_nil))) pa_nil)) (by rfl))) pss_nil))))))) (pss_one (ps_ret (pe_tupF (pa_cons (pv 7) (pa_cons (pv 8) pa_nil))))))))), ?_⟩
    obtain ⟨Tv, own, n, g, m, p, c, mm, N, hL, rfl, hv, rfl⟩ := hS
    obtain ⟨w, hn1, hn2, ho, hm, hc, m1, m3⟩ := id hv
    obtain ⟨t1, t2⟩ := wk_ok w (by omega)
    refine sg_ctx [some (tw Tv), some (.lst (own.map D.int)), some (.int (n : Nat)), some (.int g), some (.str m), some (fr p), some (.tup (rl c mm)), none, none, none, none, none, none, none, none, none, none] rfl ?_
    refine sg_seq (sg_par (d := fr ((cN g m Tv : Nat) : Rat)) (e := .non) (ag_cons (eg_is (eg_tup (ag_cons (eg_call (by walk_at "av") ⟨Tv, g, m, rfl, t1, by omega, hm, rfl⟩) (ag_cons eg_int ag_nil)) (le1000 rfl)) (fr_nat _).symm) (ag_cons eg_non ag_nil)) ?_)
    refine sg_seq (sg_asg (eg_lc (xs := own) (ee := D.int) (js := [11]) (fun k => decide (k ∉ Tv.map (·.1))) (fun k => dD (true, k)) (wg_list (by walk_at "ev")) (by decide) (by omega) fun k hk => ⟨_, gg_name, tg_is (tg_test (eg_niK (ks := Tv.map (·.1)) (k := k) (by walk_at "ev") (eg_bi (ag_cons (by walk_at "ev") ag_nil) (cg_dictT (srt1_nodup t1.1))))) (by rw [decide_not]), fun _ => ⟨eg_is (eg_tup (ag_cons eg_str (ag_cons (eg_var rfl) ag_nil)) (le1000 rfl)) rfl, rfl⟩⟩) ?_)
    refine sg_seq (sg_asg (eg_is (e := .lst ((dds own Tv).map dD)) (eg_cat (by walk_at "ev") (eg_lc (xs := own) (ee := D.int) (js := [11]) (fun k => decide (k ∈ Tv.map (·.1))) (fun k => dD (false, k)) (wg_list (by walk_at "ev")) (by decide) (by omega) fun k hk => ⟨_, gg_name, tg_test (eg_inK (ks := Tv.map (·.1)) (k := k) (by walk_at "ev") (eg_bi (ag_cons (by walk_at "ev") ag_nil) (cg_dictT (srt1_nodup t1.1)))), fun _ => ⟨eg_is (eg_tup (ag_cons eg_str (ag_cons (eg_var rfl) ag_nil)) (le1000 rfl)) rfl, rfl⟩⟩) ?_) ?_) ?_)
    · have h1 := List.length_filter_le (fun k => decide (k ∉ Tv.map (·.1))) own
      have h2 := List.length_filter_le (fun k => decide (k ∈ Tv.map (·.1))) own
      rw [List.length_map, List.length_map, sizeLine_eq]
      omega
    · show D.lst _ = D.lst _
      unfold dds
      rw [List.map_append, List.map_map, List.map_map]
      rfl
    rw [vl_LL]
    refine sg_seq (sg_for (wg_list (ds := (LL own Tv n).map dD) (eg_if (b := decide ((0 : Int) < (n : Nat))) (tg_test (eg_gt (by walk_at "ev") eg_int)) (fun hb => ?_) (fun hb => ?_)))
      (fun i Γ => ∃ x10 x11 x12 x13 x14 x15 x16 : Option D, Γ = [some (tw Tv), some (.lst (own.map D.int)), some (.int (n : Nat)), some (.int g), some (.str m), some (fr p), some (.tup (rl c mm)), some (fr (pk (ff g m own p c mm n Tv) ((LL own Tv n).take i) (((cN g m Tv : Nat) : Rat), none)).1), some (odD (pk (ff g m own p c mm n Tv) ((LL own Tv n).take i) (((cN g m Tv : Nat) : Rat), none)).2), some (.lst ((dds own Tv).map dD)), x10, x11, x12, x13, x14, x15, x16]) ⟨none, none, none, none, none, none, none, rfl⟩ ?_ ?_)
    · have h0 : n ≠ 0 := by have := of_decide_eq_true hb; omega
      unfold LL
      rw [if_neg h0]
      walk_at "ev"
    · have h0 : n = 0 := by have := of_decide_eq_false hb; omega
      unfold LL
      rw [if_pos h0]
      exact eg_lst ag_nil (le1000 rfl)
    · rintro i d Γ hd ⟨x10, x11, x12, x13, x14, x15, x16, rfl⟩
      obtain ⟨⟨wd, k⟩, hi, rfl⟩ := map_get hd
      have hn0 : n ≠ 0 := by
        intro z
        unfold LL at hi
        rw [if_pos z] at hi
        cases hi
      obtain ⟨n, rfl⟩ : ∃ q, n = q + 1 := ⟨n - 1, by omega⟩
      have hmem : (wd, k) ∈ dds own Tv := by
        have := List.mem_of_getElem? hi
        unfold LL at this
        rwa [if_neg hn0] at this
      obtain ⟨hk1, hk2⟩ := dds_mem.mp hmem
      have e1 : (LL own Tv (n + 1)).take (i + 1) = (LL own Tv (n + 1)).take i ++ [(wd, k)] := by rw [List.take_add_one, hi]; rfl
      rw [e1, pk_snoc]
      have hps := pk_s (g := g) (c := c) hv ((LL own Tv (n + 1)).take i)
      generalize pk (ff g m own p c mm (n + 1) Tv) ((LL own Tv (n + 1)).take i) (((cN g m Tv : Nat) : Rat), none) = a at hps ⊢
      have a3 := aft_len3 (c := c) hc.le.1 hc.le.2 m1 m3 w (wd, k)
      refine ⟨_, _, gg_2, ?_⟩
      refine sg_seq (sg_asg (d := .lst ((aft Tv (wd, k) p c mm).map stD)) (eg_if (b := wd) (tg_is (tg_test (eg_eqStr (by walk_at "ev") (by walk_at "ev"))) (dW_ins wd)) (fun hb => ?_) (fun hb => ?_)) ?_)
      · subst hb
        have hk : k ∉ Tv.map (·.1) := hk2.mp rfl
        have e : aft Tv (true, k) p c mm = frs Tv k p c mm := by
          unfold aft
          rw [if_pos rfl, if_neg hk]
        rw [e]
        exact eg_call (by walk_at "av") ⟨Tv, k, p, c, mm, rfl, t1, hk, hc, m1, m3, rfl⟩
      · subst hb
        exact eg_is (eg_lst (ag_cons (eg_tup (ag_cons (eg_call (d := tw (del Tv k)) (by walk_at "av") ⟨Tv, k, rfl, t1.2.2, rfl⟩) (ag_cons (eg_is (eg_tup (ag_cons eg_int (ag_cons eg_int ag_nil)) (le1000 rfl)) fr_one.symm) ag_nil)) (le1000 rfl)) ag_nil) (le1000 rfl)) rfl
      refine sg_open fun pa hpa => ?_
      have hR : ∀ (H : Hp) (v : V) (d : D), R ((B.at pp).op pa) H v d → R (B.at pp) H v d := fun _ _ _ r => r.shut
      refine si_for lj_stb op_pp (wg_list (by walk_at "ev")) (fun j Γ ds => ds = (((aft Tv (wd, k) p c mm).take j).map fun (x : Tw × Rat) => x.2 * (vl (cN g m) own p c mm n x.1).1).map fr ∧ ∃ x14 x15 : Option D, Γ = [some (tw Tv), some (.lst (own.map D.int)), some (.int ((n + 1 : Nat) : Int)), some (.int g), some (.str m), some (fr p), some (.tup (rl c mm)), some (fr a.1), some (odD a.2), some (.lst ((dds own Tv).map dD)), some (.str (dW wd)), some (.int k), some (.lst ((aft Tv (wd, k) p c mm).map stD)), some (raw pa), x14, x15, x16]) ⟨rfl, x14, x15, rfl⟩ ?_ ?_
      · clear x14 x15
        rintro j d Γ ds hd2 ⟨rfl, x14, x15, rfl⟩
        obtain ⟨x, hj, rfl⟩ := map_get hd2
        have hx := List.mem_of_getElem? hj
        obtain ⟨v1, v2⟩ := hv.next hx
        refine ⟨_, _, gg_2, ?_⟩
        have en : ((n + 1 : Nat) : Int) - 1 = (n : Nat) := by omega
        refine si_append (i := 13) (d := fr (x.2 * (vl (cN g m) own p c mm n x.1).1)) rfl (eg_call (ag_cons (by walk_at "ev") (ag_cons (eg_ixT (ds := [fr (vl (cN g m) own p c mm n x.1).1, odD (vl (cN g m) own p c mm n x.1).2]) (eg_call (ag_cons (by walk_at "ev") (ag_cons (by walk_at "ev") (ag_cons (eg_is (eg_sub (by walk_at "ev") eg_int) (congrArg D.int en)) (by walk_at "av")))) ⟨x.1, own, n, g, m, p, c, mm, N + 1, by omega, rfl, v1, rfl⟩) eg_int rfl) ag_nil)) ⟨x.2, (vl (cN g m) own p c mm n x.1).1, rfl, sz_sm v2 p.den_pos hc.2.2 (by omega) (by decide), sz_sm (vl_s v1) p.den_pos hc.2.2 (by omega) (by decide), rfl⟩) (by rw [List.length_map, List.length_map, List.length_take]; omega) ?_
        refine ⟨?_, _, _, rfl⟩
        rw [List.take_add_one, hj, List.map_append, List.map_append]
        rfl
      · rintro Γ ds ⟨rfl, x14, x15, rfl⟩
        rw [List.length_map, List.take_length]
        refine ⟨?_, rfl⟩
        have hts : ∀ q ∈ (aft Tv (wd, k) p c mm).map fun (x : Tw × Rat) => x.2 * (vl (cN g m) own p c mm n x.1).1, Sz p.den (1 * (3 ^ 9 * 16)) (2 + 18) q := by
          intro q hq
          obtain ⟨x, hx, rfl⟩ := List.mem_map.mp hq
          exact term_s hv hx
        refine sg_seq (sg_asg (d := fr (ff g m own p c mm (n + 1) Tv (wd, k))) (eg_call (by walk_at "av") ⟨(aft Tv (wd, k) p c mm).map fun (x : Tw × Rat) => x.2 * (vl (cN g m) own p c mm n x.1).1, rfl, fun q hq => sz_sm (hts q hq) p.den_pos hc.2.2 (by omega) (by decide), fun i hi => sz_sm (take_sz (L := 3) p.den_pos hts (by rw [List.length_map]; exact a3) i) p.den_pos hc.2.2 (by omega) (by decide), rfl⟩) ?_)
        refine sg_if (tg_B (eg_call (by walk_at "av") ⟨a.1, ff g m own p c mm (n + 1) Tv (wd, k), rfl, sz_sm hps p.den_pos hc.2.2 (by omega) (by decide), sz_sm (ff_s hv (wd, k)) p.den_pos hc.2.2 (by omega) (by decide), rfl⟩)) (fun hb => ?_) fun hb => sg_next ?_
        · rw [if_pos (of_decide_eq_true hb)]
          refine sg_par (d := fr (ff g m own p c mm (n + 1) Tv (wd, k))) (e := dD (wd, k)) (by walk_at "av") ?_
          exact ⟨_, _, _, _, _, _, _, rfl⟩
        · rw [if_neg (of_decide_eq_false hb)]
          exact ⟨_, _, _, _, _, _, _, rfl⟩
    · rintro Γ ⟨x10, x11, x12, x13, x14, x15, x16, rfl⟩
      rw [List.length_map, List.take_length]
      exact sg_ret (eg_tup (by walk_at "av") (le1000 rfl)) rfl
end
end Tl
end
section
set_option Elab.async false
set_option linter.all false
set_option maxRecDepth 100000
set_option maxHeartbeats 2000000
set_option autoImplicit false
set_option exponentiation.threshold 10000

/-! Plans: all of them, and the best, told twice. -/
namespace Tl
open PySem PySem.Spec PyProof.Rows L2
local macro_rules | `(tactic| walk_at "ev") => `(tactic| first
  | ((with_reducible refine' eg_var ?k1); (case k1 => exact rfl))
  | with_reducible exact eg_int
  | with_reducible exact eg_str
  | with_reducible exact eg_bl
  | with_reducible exact eg_non
  | ((with_reducible refine' eg_sub ?k1 ?k2); (case k1 => walk_at "ev"); (case k2 => walk_at "ev"))
  | ((with_reducible refine' eg_add ?k1 ?k2); (case k1 => walk_at "ev"); (case k2 => walk_at "ev"))
  | ((with_reducible refine' eg_lt ?k1 ?k2); (case k1 => walk_at "ev"); (case k2 => walk_at "ev"))
  | ((with_reducible refine' eg_le ?k1 ?k2); (case k1 => walk_at "ev"); (case k2 => walk_at "ev"))
  | ((with_reducible refine' eg_gt ?k1 ?k2); (case k1 => walk_at "ev"); (case k2 => walk_at "ev"))
  | ((with_reducible refine' eg_ge ?k1 ?k2); (case k1 => walk_at "ev"); (case k2 => walk_at "ev"))
  | ((with_reducible refine' eg_neg ?k1); (case k1 => walk_at "ev"))
  | ((with_reducible refine' eg_ixT ?k1 ?k2 ?k3); (case k1 => walk_at "ev"); (case k2 => walk_at "ev"); (case k3 => exact rfl))
  | ((with_reducible refine' eg_ixL ?k1 ?k2 ?k3); (case k1 => walk_at "ev"); (case k2 => walk_at "ev"); (case k3 => exact rfl))
  | ((with_reducible refine' eg_tup ?k1 ?k2); (case k1 => walk_at "av"); (case k2 => exact le1000 rfl))
  | ((with_reducible refine' eg_lst ?k1 ?k2); (case k1 => walk_at "av"); (case k2 => exact le1000 rfl))
  | ((with_reducible refine' eg_isN ?k1 ?k2); (case k1 => walk_at "ev"); (case k2 => exact rfl))
  | ((with_reducible refine' eg_notN ?k1 ?k2); (case k1 => walk_at "ev"); (case k2 => exact rfl))
  | ((with_reducible refine' eg_eqI ?k1 ?k2); (case k1 => walk_at "ev"); (case k2 => walk_at "ev"))
  | ((with_reducible refine' eg_eqStr ?k1 ?k2); (case k1 => walk_at "ev"); (case k2 => walk_at "ev"))
  | assumption)
local macro_rules | `(tactic| walk_at "av") => `(tactic| first
  | with_reducible exact ag_nil
  | ((with_reducible refine' ag_cons ?k1 ?k2); (case k1 => walk_at "ev"); (case k2 => walk_at "av")))
local macro_rules | `(tactic| walk_at "tv") => `(tactic| first
  | ((with_reducible refine' tg_test ?k1); (case k1 => walk_at "ev"))
  | ((with_reducible refine' tg_B ?k1); (case k1 => walk_at "ev"))
  | ((with_reducible refine' tg_not ?k1); (case k1 => walk_at "tv")))
local macro_rules | `(tactic| walk_at "nm") => `(tactic| first | dsimp only [cxOf] | skip)

section
variable {B : Bs} {mg : Str → Option Value} {base : Heap}
def plD (h : List Deed) : D := .lst (h.map dD)
theorem plz_snoc (T : Tw) (k : Int) : ∀ (ks : List Int) (ps : List (List Deed)), plz T (ks ++ [k]) ps = wid T k (plz T ks ps)
  | [], ps => rfl
  | j :: ks, ps => plz_snoc T k ks _
theorem plz_bd {T : Tw} {own : List Int} (ks : List Int) (hk : ∀ k ∈ ks, k ∈ own) (hl : ks.length ≤ 4) : (∀ h ∈ plz T ks [[]], (∀ d ∈ h, d.2 ∈ own) ∧ nin h ≤ 4 ∧ h.length ≤ 8) ∧ (plz T ks [[]]).length ≤ 81 := by
  refine ⟨fun h hh => ?_, ?_⟩
  · obtain ⟨h1, h2, h3⟩ := plz_ok (own := own) (N := 0) hk (fun h hh => by rw [List.mem_singleton.mp hh]; exact ⟨fun d hd => absurd hd List.not_mem_nil, Nat.le_refl _, Nat.le_refl _⟩) h hh
    exact ⟨h1, by omega, by omega⟩
  · refine Nat.le_trans (plz_len T ks [[]]) ?_
    rw [List.length_singleton, Nat.mul_one]
    exact Nat.le_trans (Nat.pow_le_pow_right (by omega) hl) (by decide)
theorem wid_D (T : Tw) (k : Int) (ps : List (List Deed)) : (wid T k ps).map plD = ps.flatMap fun s => (kds T k).map fun w => plD (s ++ w) := by
  unfold wid
  rw [List.map_flatMap]
  congr 1
  funext s
  rw [List.map_map]
  rfl
theorem kds_len (T : Tw) (k : Int) : (kds T k).length ≤ 3 ∧ ∀ w ∈ kds T k, w.length ≤ 2 := ⟨by unfold kds; split <;> simp, fun w hw => (kds_ok hw).2.2⟩
def S_choices (ds : List D) (e : D) : Prop := ∃ (T : Tw) (own : List Int) (n : Nat), ds = [tw T, .lst (own.map D.int), .int (n : Nat)] ∧ TwOk T ∧ own.length ≤ 4 ∧ e = .lst ((cut n (plz T own [[]])).map plD)
theorem ok_choices (T : Txt B.K mg) : FnOk B.P B.w B.K mg base CX0 1 T.choices.f T.choices.d p_choices (PSp B.P B.w B.K S_choices) := by
  refine fn_pure T.choices.F sc_choices (fun ds e h => by obtain ⟨_, _, _, rfl, _⟩ := h; rfl) fun pp cdv A outer s H E ds e hr hS => ⟨_, (pss_cons (ps_set (i := 3) sc_choices.nd rfl (Or.inl rfl) (pe_lst (pa_cons (pe_lst pa_nil) pa_nil))) (pss_cons (ps_for PassesOwn.never rfl (k_list (K := B.K) rfl (pv 1)) (pg_name (i := 4) sc_choices.nd rfl (Or.inl rfl)) (pss_cons (ps_set (i := 5) sc_choices.nd rfl (Or.inl rfl) (pe_cmpR (k_in (K := B.K) rfl (hu_of hr)) (pv 4) (pe_callTy (k_dictT (K := B.K) rfl rfl) (by rfl) T.m_dict (by decide +kernel) (pa_cons (pv 0) pa_nil)) (by rfl))) (pss_cons (ps_set (i := 6) sc_choices.nd rfl (Or.inr rfl) (pe_ifExp (pt_val (pv 5)) (pe_lst (pa_cons (pe_lst pa_nil) (pa_cons (pe_lst (pa_cons (pe_tupF (pa_cons pe_str (pa_cons (pv 4) pa_nil))) pa_nil)) (pa_cons (pe_lst (pa_cons (pe_tupF (pa_cons pe_str (pa_cons (pv 4) pa_nil))) (pa_cons (pe_tupF (pa_cons pe_str (pa_cons (pv 4) pa_nil))) pa_nil))) pa_nil)))) (pe_lst (pa_cons (pe_lst pa_nil) (pa_cons (pe_lst (pa_cons (pe_tupF (pa_cons pe_str (pa_cons (pv 4) pa_nil))) pa_nil)) pa_nil))))) (pss_one (ps_setLc2 (i := 3) (own := [("some", 7), ("way", 8)]) (vs1 := [8]) rfl sc_choices.nd rfl rfl (sw_true rfl rfl rfl (by decide +kernel)) (k_list (K := B.K) rfl (pv 3)) (blkOk_by (own := [("some", 7), ("way", 8)]) (N := n_choices) (sc := defScope s_choices) (by decide +kernel)) (by decide) (fun _ _ _ _ _ => (pg_name (i := 7) sc_choices.nd rfl (Or.inl rfl))) (fun _ _ _ _ _ => pts_nil) (fun _ _ _ _ _ => (k_list (K := B.K) rfl (pv 6))) (fun _ _ _ _ _ => (pg_name (i := 8) sc_choices.nd rfl (Or.inl rfl))) (fun _ _ _ _ _ => pts_nil) (fun _ _ _ _ _ => (pe_op (k_add (K := B.K) rfl) (pv 7) (pv 8)))))))) (pss_one (ps_ret (pe_lc (own := [("some", 7)]) rfl sc_choices.nd (k_list (K := B.K) rfl (pv 3)) (blkOk_by (own := [("some", 7)]) (N := n_choices) (sc := defScope s_choices) (by decide +kernel)) (fun _ _ _ _ _ => (pg_name (i := 7) sc_choices.nd rfl (Or.inl rfl))) (fun _ _ _ _ _ => (pts_one (pt_cmpR op_le (pe_callB (k_len (K := B.K) rfl) (by rfl) T.m_len (by decide +kernel) (pa_cons (pv 7) pa_nil)) (pv 2) (nomark _)))) (fun _ _ _ _ _ => (pv 7))))))), ?_⟩
  obtain ⟨Tv, own, n, rfl, hT, ho, rfl⟩ := hS
  refine sg_ctx [some (tw Tv), some (.lst (own.map D.int)), some (.int (n : Nat)), none, none, none, none, none, none] rfl ?_
  refine sg_seq (sg_asg (d := .lst ((plz Tv [] [[]]).map plD)) (eg_lst (ag_cons (eg_lst ag_nil (le1000 rfl)) ag_nil) (le1000 rfl)) ?_)
  refine sg_seq (sg_for (wg_list (by walk_at "ev")) (fun j Γ => ∃ x4 x5 x6 : Option D, Γ = [some (tw Tv), some (.lst (own.map D.int)), some (.int (n : Nat)), some (.lst ((plz Tv (own.take j) [[]]).map plD)), x4, x5, x6, none, none]) ⟨none, none, none, rfl⟩ ?_ ?_)
  · rintro j d Γ hd ⟨x4, x5, x6, rfl⟩
    obtain ⟨k, hj, rfl⟩ := map_get hd
    have e1 : own.take (j + 1) = own.take j ++ [k] := by rw [List.take_add_one, hj]; rfl
    rw [e1, plz_snoc]
    obtain ⟨b1, b2⟩ := plz_bd (T := Tv) (own := own) (own.take j) (fun x hx => List.mem_of_mem_take hx) (by rw [List.length_take]; omega)
    generalize plz Tv (own.take j) [[]] = ps at b1 b2 ⊢
    refine ⟨_, _, gg_name, ?_⟩
    refine sg_seq (sg_asg (eg_inK (ks := Tv.map (·.1)) (k := k) (by walk_at "ev") (eg_bi (ag_cons (by walk_at "ev") ag_nil) (cg_dictT (srt1_nodup hT.1)))) ?_)
    refine sg_seq (sg_asg (d := .lst ((kds Tv k).map plD)) (eg_if (b := decide (k ∈ Tv.map (·.1))) (tg_B (by walk_at "ev")) (fun hb => ?_) (fun hb => ?_)) ?_)
    · unfold kds
      rw [if_pos (of_decide_eq_true hb)]
      exact eg_is (eg_lst (ag_cons (eg_lst ag_nil (le1000 rfl)) (ag_cons (eg_lst (ag_cons (eg_tup (ag_cons eg_str (ag_cons (by walk_at "ev") ag_nil)) (le1000 rfl)) ag_nil) (le1000 rfl)) (ag_cons (eg_lst (ag_cons (eg_tup (ag_cons eg_str (ag_cons (by walk_at "ev") ag_nil)) (le1000 rfl)) (ag_cons (eg_tup (ag_cons eg_str (ag_cons (by walk_at "ev") ag_nil)) (le1000 rfl)) ag_nil)) (le1000 rfl)) ag_nil))) (le1000 rfl)) rfl
    · unfold kds
      rw [if_neg (of_decide_eq_false hb)]
      exact eg_is (eg_lst (ag_cons (eg_lst ag_nil (le1000 rfl)) (ag_cons (eg_lst (ag_cons (eg_tup (ag_cons eg_str (ag_cons (by walk_at "ev") ag_nil)) (le1000 rfl)) ag_nil) (le1000 rfl)) ag_nil)) (le1000 rfl)) rfl
    obtain ⟨k1, k2⟩ := kds_len Tv k
    refine sg_asg (eg_is (e := .lst ((wid Tv k ps).map plD)) (eg_lc2N (xs := ps) (ys := kds Tv k) (ee := plD) (e2 := plD) (js := [7]) (js1 := [8]) (fun s w => plD (s ++ w)) (wg_list (by walk_at "ev")) (by decide) (by decide) (Nat.le_trans (Nat.mul_le_mul (Nat.succ_le_succ b2) (Nat.succ_le_succ k1)) (by decide)) fun pa s hs => ⟨_, gg_name, wg_list (by walk_at "ev"), fun w hw => ⟨_, gg_name, eg_is (eg_cat (ds := s.map dD) (es := w.map dD) (eg_var rfl) (eg_var rfl) ?_) ?_⟩⟩) ?_) ?_
    · have h1 := (b1 s hs).2.2
      have h2 := k2 w hw
      rw [List.length_map, List.length_map, sizeLine_eq]
      omega
    · show D.lst _ = D.lst _
      rw [List.map_append]
    · rw [wid_D]
    exact ⟨_, _, _, rfl⟩
  · rintro Γ ⟨x4, x5, x6, rfl⟩
    rw [List.length_map, List.take_length]
    obtain ⟨b1, b2⟩ := plz_bd (T := Tv) (own := own) own (fun x hx => hx) ho
    refine sg_ret (eg_lcN (xs := plz Tv own [[]]) (ee := plD) (js := [7]) (fun h => decide (h.length ≤ n)) plD (wg_list (by walk_at "ev")) (by decide) (by omega) fun pa h hh => ⟨_, gg_name, tg_is (tg_test (eg_le (i := ((h.map dD).length : Int)) (j := (n : Nat)) (eg_bi (ag_cons (d := .lst (h.map dD)) (eg_var rfl) ag_nil) cg_lenL) (by walk_at "ev"))) ?_, fun _ => eg_var rfl⟩) rfl
    rw [List.length_map]
    by_cases z : h.length ≤ n
    · rw [decide_eq_true z, decide_eq_true (by omega)]
    · rw [decide_eq_false z, decide_eq_false (by omega)]
/-! the best plan -/
def mhc (g : Int) (m : Str) (p : Rat) (c : Bool) (mm : Int) (T : Tw) (h : List Deed) : Rat := mh (cN g m) p c mm h T
def BlOk (T : Tw) (own : List Int) (m : Str) (p : Rat) (mm : Int) : Prop := Wk 8 T ∧ own.length ≤ 4 ∧ ManOk m ∧ ChR p ∧ 1 ≤ mm ∧ mm ≤ 3
theorem BlOk.pl {T : Tw} {own : List Int} {m : Str} {p : Rat} {mm : Int} (h : BlOk T own m p mm) {hs : List Deed} (hh : hs ∈ plz T own [[]]) : PlOk T hs p mm := by
  obtain ⟨w, ho, hm, hc, m1, m3⟩ := h
  obtain ⟨b1, b2⟩ := plz_bd (T := T) (own := own) own (fun x hx => hx) ho
  obtain ⟨h1, h2, h3⟩ := b1 hs hh
  exact ⟨w, h3, h2, hc, m1, m3⟩
theorem sts_led {T : Tw} {h : List Deed} {p : Rat} {c : Bool} {mm : Int} (hp : PlOk T h p mm) : StsOk 16 6561 (h.foldl (lst1 p c mm) [(T, 1)]) := by
  obtain ⟨a1, a2⟩ := pl_states (c := c) hp h.length
  rw [List.take_length] at a1 a2
  have hc : ChR p := hp.2.2.2.1
  exact ⟨p.den, 16, p.den_pos, hc.2.2, by omega, by omega, by omega, by omega, a1⟩
theorem sts_ledD {T : Tw} {h : List Deed} {p : Rat} {c : Bool} {mm : Int} (hp : PlOk T h p mm) : StsOk 16 6561 (h.foldl (dst1 p c mm) [(T, 1)]) := by
  obtain ⟨a1, a2, a3⟩ := pl_statesD (c := c) hp h.length
  rw [List.take_length] at a1 a2
  have hc : ChR p := hp.2.2.2.1
  exact ⟨p.den, 16, p.den_pos, hc.2.2, by omega, by omega, by omega, by omega, a1⟩
theorem sts_sm {N M : Nat} {xs : List (Tw × Rat)} (h : StsOk N M xs) (key : Int) (m : Str) : sm (mn (fun T => ((cN key m T : Nat) : Rat)) xs) := by
  have hl : xs.length ≤ 100 := by obtain ⟨_, _, _, _, _, _, _, z, _⟩ := h; exact z
  obtain ⟨K, k, h0, hK, hk, hz⟩ := sts_mul h key m
  have z := take_sz (L := 100) (K := K) (N := 10 ^ 6 * 104) (k := k) h0 (qs := xs.map fun (x : Tw × Rat) => x.2 * ((cN key m x.1 : Nat) : Rat)) (fun q hq => by
    obtain ⟨x, hx, rfl⟩ := List.mem_map.mp hq
    exact (hz x hx).2.2.2.2) (by rw [List.length_map]; exact hl) (xs.map fun (x : Tw × Rat) => x.2 * ((cN key m x.1 : Nat) : Rat)).length
  rw [List.take_length] at z
  exact sz_sm z h0 hK (by omega) (by decide)
theorem mhc_l (g : Int) (m : Str) (p : Rat) (c : Bool) (mm : Int) (T : Tw) (h : List Deed) : mn (fun T => ((cN g m T : Nat) : Rat)) (h.foldl (lst1 p c mm) [(T, 1)]) = mhc g m p c mm T h := by
  rw [mh_lst, mn_one]
  rfl
theorem mhc_d (g : Int) (m : Str) (p : Rat) (c : Bool) (mm : Int) (T : Tw) (h : List Deed) : mn (fun T => ((cN g m T : Nat) : Rat)) (h.foldl (dst1 p c mm) [(T, 1)]) = mhc g m p c mm T h := by
  rw [mh_dst, mn_one]
  rfl
theorem mhc_sm (g : Int) (m : Str) {p : Rat} (c : Bool) {mm : Int} {T : Tw} {h : List Deed} (hp : PlOk T h p mm) : sm (mhc g m p c mm T h) := by
  rw [← mhc_l]
  exact sts_sm (sts_led hp) g m
theorem lb_in (f : List Deed → Rat) (n : Nat) : ∀ (hs : List (List Deed)) (a : Option (Rat × Nat)), (∀ b, a = some b → sm b.1) → (∀ h ∈ hs, sm (f h)) → ∀ b, hs.foldl (lb1 f n) a = some b → sm b.1
  | [], a, ha, _, b, e => ha b e
  | h :: hs, a, ha, hh, b, e => by
    refine lb_in f n hs (lb1 f n a h) (fun b' e' => ?_) (fun x hx => hh x (List.mem_cons_of_mem _ hx)) b e
    have h0 := hh h List.mem_cons_self
    unfold lb1 at e'
    split at e'
    · cases a with
      | none => cases e'; exact h0
      | some a =>
        dsimp only at e'
        split at e'
        · cases e'; exact h0
        · exact ha b' e'
    · exact ha b' e'
theorem bs_in (f : List Deed → Rat) : ∀ (hs : List (List Deed)) (a : Option (Rat × List Deed)), (∀ b, a = some b → sm b.1 ∧ b.2.length ≤ 8) → (∀ h ∈ hs, sm (f h) ∧ h.length ≤ 8) → ∀ b, hs.foldl (bs1 f) a = some b → sm b.1 ∧ b.2.length ≤ 8
  | [], a, ha, _, b, e => ha b e
  | h :: hs, a, ha, hh, b, e => by
    refine bs_in f hs (bs1 f a h) (fun b' e' => ?_) (fun x hx => hh x (List.mem_cons_of_mem _ hx)) b e
    have h0 := hh h List.mem_cons_self
    unfold bs1 at e'
    cases a with
    | none => cases e'; exact h0
    | some a =>
      dsimp only at e'
      split at e'
      · cases e'; exact h0
      · exact ha b' e'
def lbD : Option (Rat × Nat) → D
  | none => .non
  | some b => .tup [fr b.1, .int (b.2 : Nat)]
def bsD : Option (Rat × List Deed) → D
  | none => .non
  | some b => .tup [fr b.1, plD b.2]
theorem fr_k (q : Rat) : sk (fr q) = true ∧ dp (fr q) := ⟨rfl, by show 1 ≤ 64; decide⟩
theorem fr_inj {p q : Rat} : decide (p = q) = true ↔ fr p = fr q := by
  rw [decide_eq_true_iff]
  constructor
  · intro h; rw [h]
  · intro h
    unfold fr at h
    have h1 := List.cons.inj (D.tup.inj h)
    have h2 := D.int.inj h1.1
    have h3 := D.int.inj (List.cons.inj h1.2).1
    exact Rat.ext h2 (by omega)
def S_lblind (ds : List D) (e : D) : Prop := ∃ (T : Tw) (own : List Int) (n : Nat) (g : Int) (m : Str) (p : Rat) (c : Bool) (mm : Int), ds = [tw T, .lst (own.map D.int), .int (n : Nat), .int g, .str m, fr p, .tup (rl c mm)] ∧ BlOk T own m p mm ∧ e = lbD ((plz T own [[]]).foldl (lb1 (mhc g m p c mm T) n) none)
theorem dec_le (a b : Nat) : decide ((a : Int) ≤ (b : Int)) = decide (a ≤ b) := by
  by_cases z : a ≤ b
  · rw [decide_eq_true z, decide_eq_true (by omega)]
  · rw [decide_eq_false z, decide_eq_false (by omega)]
theorem dec_lt (a b : Nat) : decide ((a : Int) < (b : Int)) = decide (a < b) := by
  by_cases z : a < b
  · rw [decide_eq_true z, decide_eq_true (by omega)]
  · rw [decide_eq_false z, decide_eq_false (by omega)]
theorem ok_law_blind (T : Txt B.K mg) : FnOk B.P B.w B.K mg base CX0 7 T.law_blind.f T.law_blind.d p_law_blind (PSp B.P B.w B.K S_lblind) := by
  have G_law_mean := ok_law_mean (base := base) T
  have G_law_led := ok_law_led (base := base) T
  have G_law_less := ok_law_less (base := base) T
  refine fn_pure T.law_blind.F sc_law_blind (fun ds e h => by obtain ⟨_, _, _, _, _, _, _, _, rfl, _⟩ := h; rfl) fun pp cdv A outer s H E ds e hr hS => ⟨_, (pss_cons (ps_par (i := 7) (j := 8) rfl sc_law_blind.nd rfl rfl (by decide) rfl rfl (pa_cons (pe_lst (pa_cons (pe_lst pa_nil) pa_nil)) (pa_cons pe_non pa_nil)) (by rfl)) (pss_cons (ps_for PassesOwn.never rfl (k_list (K := B.K) rfl (pv 1)) (pg_name (i := 9) sc_law_blind.nd rfl (Or.inl rfl)) (pss_cons (ps_par (i := 10) (j := 11) rfl sc_law_blind.nd rfl rfl (by decide) rfl rfl (pa_cons (pe_lst (pa_cons (pe_tupF (pa_cons pe_str (pa_cons (pv 9) pa_nil))) pa_nil)) (pa_cons (pe_lst (pa_cons (pe_tupF (pa_cons pe_str (pa_cons (pv 9) pa_nil))) pa_nil)) pa_nil)) (by rfl)) (pss_cons (ps_set (i := 12) sc_law_blind.nd rfl (Or.inl rfl) (pe_ifExp (pt_cmpR (k_in (K := B.K) rfl (hu_of hr)) (pv 9) (pe_callTy (k_dictT (K := B.K) rfl rfl) (by rfl) T.m_dict (by decide +kernel) (pa_cons (pv 0) pa_nil)) (by rfl)) (pe_lst (pa_cons (pe_lst pa_nil) (pa_cons (pv 10) (pa_cons (pe_op (k_add (K := B.K) rfl) (pv 10) (pv 11)) pa_nil)))) (pe_lst (pa_cons (pe_lst pa_nil) (pa_cons (pv 11) pa_nil))))) (pss_cons (ps_set (i := 13) sc_law_blind.nd rfl (Or.inl rfl) (pe_lst pa_nil)) (pss_cons (ps_for PassesOwn.never rfl (k_list (K := B.K) rfl (pv 7)) (pg_name (i := 14) sc_law_blind.nd rfl (Or.inr rfl)) (pss_one (ps_expr (k_bm (K := B.K) rfl PySem.F.plainAttrs_list PySem.F.slot_list_extend PySem.F.type_list_extend mt_extend (pv 13) (pa_cons (pe_lc (own := [("_law_one_so", 16)]) rfl sc_law_blind.nd (k_list (K := B.K) rfl (pv 12)) (blkOk_by (own := [("_law_one_so", 16)]) (N := n_law_blind) (sc := defScope s_law_blind) (by decide +kernel)) (fun _ _ _ _ _ => (pg_name (i := 16) sc_law_blind.nd rfl (Or.inl rfl))) (fun _ _ _ _ _ => pts_nil) (fun _ _ _ _ _ => (pe_op (k_add (K := B.K) rfl) (pv 14) (pv 16)))) pa_nil))))) (pss_one (ps_set (i := 7) sc_law_blind.nd rfl (Or.inl rfl) (pv 13)))))))) (pss_cons (ps_for PassesOwn.never rfl (k_list (K := B.K) rfl (pv 7)) (pg_name (i := 14) sc_law_blind.nd rfl (Or.inr rfl)) (pss_one (ps_if (pt_cmpR op_le (pe_callB (k_len (K := B.K) rfl) (by rfl) T.m_len (by decide +kernel) (pa_cons (pv 14) pa_nil)) (pv 2) (nomark _)) (pss_cons (ps_set (i := 15) sc_law_blind.nd rfl (Or.inl rfl) (pe_call G_law_mean (hr.mono (by decide)) (by rfl) T.law_mean.g T.law_mean.F.kp T.law_mean.b .nil pass0 (pa_cons (pe_call G_law_led (hr.mono (by decide)) (by rfl) T.law_led.g T.law_led.F.kp T.law_led.b .nil pass0 (pa_cons (pe_lst (pa_cons (pe_tupF (pa_cons (pv 0) (pa_cons (pe_tupF (pa_cons pe_int (pa_cons pe_int pa_nil))) pa_nil))) pa_nil)) (pa_cons (pv 14) (pa_cons (pv 5) (pa_cons (pv 6) pa_nil))))) (pa_cons (pv 3) (pa_cons (pv 4) pa_nil))))) (pss_one (ps_if (PW.pt (pw_or (pt_cmpR op_isNn (pv 8) pe_non (nomark _)) (pw_or (pt_val (pe_call G_law_less (hr.mono (by decide)) (by rfl) T.law_less.g T.law_less.F.kp T.law_less.b .nil pass0 (pa_cons (pe_ix (k_ix (K := B.K) rfl) (pv 8) pe_int (fun _ _ => rfl)) (pa_cons (pv 15) pa_nil)))) (pw_or1 (PW.pt (pw_and (pt_cmpR (k_eq (K := B.K) rfl hr.units) (pv 15) (pe_ix (k_ix (K := B.K) rfl) (pv 8) pe_int (fun _ _ => rfl)) (nomark _)) (pw_and1 (pt_cmpR op_lt (pe_callB (k_len (K := B.K) rfl) (by rfl) T.m_len (by decide +kernel) (pa_cons (pv 14) pa_nil)) (pe_ix (k_ix (K := B.K) rfl) (pv 8) pe_int (fun _ _ => rfl)) (nomark _))))))))) (pss_one (ps_set (i := 8) sc_law_blind.nd rfl (Or.inl rfl) (pe_tupF (pa_cons (pv 15) (pa_cons (pe_callB (k_len (K := B.K) rfl) (by rfl) T.m_len (by decide +kernel) (pa_cons (pv 14) pa_nil)) pa_nil))))) pss_nil))) pss_nil))) (pss_one (ps_ret (pv 8)))))), ?_⟩
  obtain ⟨Tv, own, n, g, m, p, c, mm, rfl, hb, rfl⟩ := hS
  obtain ⟨w, ho, hm, hc, m1, m3⟩ := id hb
  obtain ⟨t1, t2⟩ := wk_ok w (by omega)
  refine sg_ctx [some (tw Tv), some (.lst (own.map D.int)), some (.int (n : Nat)), some (.int g), some (.str m), some (fr p), some (.tup (rl c mm)), none, none, none, none, none, none, none, none, none, none] rfl ?_
  refine sg_seq (sg_par (d := .lst ((plz Tv [] [[]]).map plD)) (e := .non) (ag_cons (eg_lst (ag_cons (eg_lst ag_nil (le1000 rfl)) ag_nil) (le1000 rfl)) (ag_cons eg_non ag_nil)) ?_)
  refine sg_seq (sg_for (wg_list (by walk_at "ev")) (fun j Γ => ∃ x9 x10 x11 x12 x13 x14 : Option D, Γ = [some (tw Tv), some (.lst (own.map D.int)), some (.int (n : Nat)), some (.int g), some (.str m), some (fr p), some (.tup (rl c mm)), some (.lst ((plz Tv (own.take j) [[]]).map plD)), some .non, x9, x10, x11, x12, x13, x14, none, none]) ⟨none, none, none, none, none, none, rfl⟩ ?_ ?_)
  · rintro j d Γ hd ⟨x9, x10, x11, x12, x13, x14, rfl⟩
    obtain ⟨k, hj, rfl⟩ := map_get hd
    have e1 : own.take (j + 1) = own.take j ++ [k] := by rw [List.take_add_one, hj]; rfl
    rw [e1, plz_snoc]
    obtain ⟨b1, b2⟩ := plz_bd (T := Tv) (own := own) (own.take j) (fun x hx => List.mem_of_mem_take hx) (by rw [List.length_take]; omega)
    generalize plz Tv (own.take j) [[]] = ps at b1 b2 ⊢
    obtain ⟨k1, k2⟩ := kds_len Tv k
    refine ⟨_, _, gg_name, ?_⟩
    refine sg_seq (sg_par (d := plD [(false, k)]) (e := plD [(true, k)]) (ag_cons (eg_is (eg_lst (ag_cons (eg_tup (ag_cons eg_str (ag_cons (by walk_at "ev") ag_nil)) (le1000 rfl)) ag_nil) (le1000 rfl)) rfl) (ag_cons (eg_is (eg_lst (ag_cons (eg_tup (ag_cons eg_str (ag_cons (by walk_at "ev") ag_nil)) (le1000 rfl)) ag_nil) (le1000 rfl)) rfl) ag_nil)) ?_)
    refine sg_seq (sg_asg (d := .lst ((kds Tv k).map plD)) (eg_if (b := decide (k ∈ Tv.map (·.1))) (tg_test (eg_inK (ks := Tv.map (·.1)) (k := k) (by walk_at "ev") (eg_bi (ag_cons (by walk_at "ev") ag_nil) (cg_dictT (srt1_nodup t1.1))))) (fun hb => ?_) (fun hb => ?_)) ?_)
    · unfold kds
      rw [if_pos (of_decide_eq_true hb)]
      exact eg_is (eg_lst (ag_cons (eg_lst ag_nil (le1000 rfl)) (ag_cons (d := plD [(false, k)]) (eg_var rfl) (ag_cons (eg_cat (ds := [dD (false, k)]) (es := [dD (true, k)]) (eg_var rfl) (eg_var rfl) (by rw [sizeLine_eq]; show 1 + 1 ≤ _; omega)) ag_nil))) (le1000 rfl)) rfl
    · unfold kds
      rw [if_neg (of_decide_eq_false hb)]
      exact eg_is (eg_lst (ag_cons (eg_lst ag_nil (le1000 rfl)) (ag_cons (d := plD [(true, k)]) (eg_var rfl) ag_nil)) (le1000 rfl)) rfl
    refine sg_open fun pa hpa => ?_
    have hR : ∀ (H : Hp) (v : V) (d : D), R ((B.at pp).op pa) H v d → R (B.at pp) H v d := fun _ _ _ r => r.shut
    refine si_for lj_stb op_pp (wg_list (by walk_at "ev")) (fun i Γ ds => ds = (wid Tv k (ps.take i)).map plD ∧ ∃ x14 : Option D, Γ = [some (tw Tv), some (.lst (own.map D.int)), some (.int (n : Nat)), some (.int g), some (.str m), some (fr p), some (.tup (rl c mm)), some (.lst (ps.map plD)), some .non, some (.int k), some (plD [(false, k)]), some (plD [(true, k)]), some (.lst ((kds Tv k).map plD)), some (raw pa), x14, none, none]) ⟨rfl, x14, rfl⟩ ?_ ?_
    · rintro i d Γ ds hd ⟨rfl, x14, rfl⟩
      obtain ⟨s, hi, rfl⟩ := map_get hd
      have hs := List.mem_of_getElem? hi
      have e2 : wid Tv k (ps.take (i + 1)) = wid Tv k (ps.take i) ++ (kds Tv k).map fun w => s ++ w := by
        rw [List.take_add_one, hi]
        unfold wid
        rw [List.flatMap_append]
        congr 1
        exact List.append_nil _
      have hwl := wid_len Tv k (ps.take i)
      have htl : (ps.take i).length ≤ 81 := by rw [List.length_take]; omega
      refine ⟨_, _, gg_name, ?_⟩
      refine si_extend (i := 13) (es := ((kds Tv k).map fun w => s ++ w).map plD) rfl (eg_is (eg_lcNAll (xs := kds Tv k) (ee := plD) (js := [16]) (fun w => plD (s ++ w)) (wg_list (by walk_at "ev")) (by decide) (by omega) fun pa2 w hw => ⟨_, gg_name, eg_is (eg_cat (ds := s.map dD) (es := w.map dD) (eg_var rfl) (eg_var rfl) ?_) ?_⟩) ?_) ?_ ?_
      · have h1 := (b1 s hs).2.2
        have h2 := k2 w hw
        rw [List.length_map, List.length_map, sizeLine_eq]
        omega
      · show D.lst _ = D.lst _
        rw [List.map_append]
      · rw [List.map_map]
        rfl
      · rw [List.length_map, List.length_map, List.length_map]
        omega
      · refine ⟨?_, _, rfl⟩
        rw [e2, List.map_append]
    · rintro Γ ds ⟨rfl, x14, rfl⟩
      rw [List.length_map, List.take_length]
      refine ⟨?_, rfl⟩
      refine sg_asg (by walk_at "ev") ?_
      exact ⟨_, _, _, _, _, _, rfl⟩
  · rintro Γ ⟨x9, x10, x11, x12, x13, x14, rfl⟩
    rw [List.length_map, List.take_length]
    obtain ⟨b1, b2⟩ := plz_bd (T := Tv) (own := own) own (fun x hx => hx) ho
    have hpl : ∀ h ∈ plz Tv own [[]], PlOk Tv h p mm := fun h hh => hb.pl hh
    have hsm : ∀ h ∈ plz Tv own [[]], sm (mhc g m p c mm Tv h) := fun h hh => mhc_sm g m c (hpl h hh)
    generalize plz Tv own [[]] = ps at b1 b2 hpl hsm ⊢
    refine sg_seq (sg_for (wg_list (by walk_at "ev")) (fun i Γ => ∃ y14 y15 : Option D, Γ = [some (tw Tv), some (.lst (own.map D.int)), some (.int (n : Nat)), some (.int g), some (.str m), some (fr p), some (.tup (rl c mm)), some (.lst (ps.map plD)), some (lbD ((ps.take i).foldl (lb1 (mhc g m p c mm Tv) n) none)), x9, x10, x11, x12, x13, y14, y15, none]) ⟨x14, none, rfl⟩ ?_ ?_)
    · rintro i d Γ hd ⟨y14, y15, rfl⟩
      obtain ⟨h, hi, rfl⟩ := map_get hd
      have hh := List.mem_of_getElem? hi
      have hp := hpl h hh
      have e1 : (ps.take (i + 1)).foldl (lb1 (mhc g m p c mm Tv) n) none = lb1 (mhc g m p c mm Tv) n ((ps.take i).foldl (lb1 (mhc g m p c mm Tv) n) none) h := by
        rw [List.take_add_one, hi, List.foldl_append]
        rfl
      rw [e1]
      have hbs := lb_in (mhc g m p c mm Tv) n (ps.take i) none (fun b z => nomatch z) (fun x hx => hsm x (List.mem_of_mem_take hx))
      generalize (ps.take i).foldl (lb1 (mhc g m p c mm Tv) n) none = a at hbs ⊢
      refine ⟨_, _, gg_name, ?_⟩
      refine sg_if (tg_is (tg_test (eg_le (i := ((h.map dD).length : Int)) (j := (n : Nat)) (eg_bi (ag_cons (d := .lst (h.map dD)) (eg_var rfl) ag_nil) cg_lenL) (by walk_at "ev"))) (c := decide (h.length ≤ n)) (by rw [List.length_map, dec_le])) (fun hn => ?_) fun hn => sg_next ?_
      · have hn := of_decide_eq_true hn
        refine sg_seq (sg_asg (d := fr (mhc g m p c mm Tv h)) (eg_call (ag_cons (eg_call (ag_cons (eg_lst (ag_cons (eg_tup (ag_cons (by walk_at "ev") (ag_cons (eg_is (eg_tup (ag_cons eg_int (ag_cons eg_int ag_nil)) (le1000 rfl)) fr_one.symm) ag_nil)) (le1000 rfl)) ag_nil) (le1000 rfl)) (ag_cons (d := .lst (h.map dD)) (eg_var rfl) (by walk_at "av"))) ⟨Tv, h, p, c, mm, rfl, hp, rfl⟩) (by walk_at "av")) ⟨h.foldl (lst1 p c mm) [(Tv, 1)], g, m, 16, 6561, rfl, hm, sts_led hp, by rw [mhc_l]⟩) ?_)
        cases a with
        | none =>
          refine sg_if (tg_or (a := true) (b := false) (tg_test (eg_isN (d := .non) (eg_var rfl) (b := true) rfl)) fun h => absurd h (by decide)) (fun _ => ?_) fun h => absurd h (by decide)
          refine sg_asg (d := lbD (some (mhc g m p c mm Tv h, h.length))) (eg_is (eg_tup (ag_cons (by walk_at "ev") (ag_cons (eg_bi (ag_cons (d := .lst (h.map dD)) (eg_var rfl) ag_nil) cg_lenL) ag_nil)) (le1000 rfl)) (by rw [List.length_map]; rfl)) ?_
          unfold lb1
          rw [if_pos hn]
          exact ⟨_, _, rfl⟩
        | some b =>
          have hsb := hbs b rfl
          refine sg_if (tg_or (a := false) (b := decide (b.1 < mhc g m p c mm Tv h) || decide (mhc g m p c mm Tv h = b.1) && decide (h.length < b.2)) (tg_test (eg_isN (d := .tup [fr b.1, .int (b.2 : Nat)]) (eg_var rfl) (b := false) rfl)) fun _ => tg_or (tg_B (eg_call (ag_cons (eg_ixT (ds := [fr b.1, .int (b.2 : Nat)]) (eg_var rfl) eg_int rfl) (by walk_at "av")) ⟨b.1, mhc g m p c mm Tv h, rfl, hsb, hsm h hh, rfl⟩)) fun _ => tg_and (tg_test (eg_eqK (by walk_at "ev") (eg_ixT (ds := [fr b.1, .int (b.2 : Nat)]) (eg_var rfl) eg_int rfl) (fr_k _).1 (fr_k _).1 (fr_k _).2 (fr_k _).2 fr_inj)) fun _ => tg_is (tg_test (eg_lt (i := ((h.map dD).length : Int)) (j := (b.2 : Nat)) (eg_bi (ag_cons (d := .lst (h.map dD)) (eg_var rfl) ag_nil) cg_lenL) (eg_ixT (ds := [fr b.1, .int (b.2 : Nat)]) (eg_var rfl) eg_int rfl))) (by rw [List.length_map, dec_lt])) (fun hz => ?_) fun hz => sg_next ?_
          · rw [Bool.false_or] at hz
            refine sg_asg (d := lbD (some (mhc g m p c mm Tv h, h.length))) (eg_is (eg_tup (ag_cons (by walk_at "ev") (ag_cons (eg_bi (ag_cons (d := .lst (h.map dD)) (eg_var rfl) ag_nil) cg_lenL) ag_nil)) (le1000 rfl)) (by rw [List.length_map]; rfl)) ?_
            unfold lb1
            rw [if_pos hn]
            dsimp only
            rw [if_pos hz]
            exact ⟨_, _, rfl⟩
          · rw [Bool.false_or] at hz
            unfold lb1
            rw [if_pos hn]
            dsimp only
            rw [if_neg (by rw [hz]; exact Bool.false_ne_true)]
            exact ⟨_, _, rfl⟩
      · unfold lb1
        rw [if_neg (of_decide_eq_false hn)]
        exact ⟨_, _, rfl⟩
    · rintro Γ ⟨y14, y15, rfl⟩
      rw [List.length_map, List.take_length]
      exact sg_ret (by walk_at "ev") rfl
end
end Tl
end
section
set_option Elab.async false
set_option linter.all false
set_option maxRecDepth 100000
set_option maxHeartbeats 2000000
set_option autoImplicit false
set_option exponentiation.threshold 10000

/-! The blind looker. -/
namespace Tl
open PySem PySem.Spec PyProof.Rows L2
local macro_rules | `(tactic| walk_at "ev") => `(tactic| first
  | ((with_reducible refine' eg_var ?k1); (case k1 => exact rfl))
  | with_reducible exact eg_int
  | with_reducible exact eg_str
  | with_reducible exact eg_bl
  | with_reducible exact eg_non
  | ((with_reducible refine' eg_sub ?k1 ?k2); (case k1 => walk_at "ev"); (case k2 => walk_at "ev"))
  | ((with_reducible refine' eg_add ?k1 ?k2); (case k1 => walk_at "ev"); (case k2 => walk_at "ev"))
  | ((with_reducible refine' eg_lt ?k1 ?k2); (case k1 => walk_at "ev"); (case k2 => walk_at "ev"))
  | ((with_reducible refine' eg_le ?k1 ?k2); (case k1 => walk_at "ev"); (case k2 => walk_at "ev"))
  | ((with_reducible refine' eg_gt ?k1 ?k2); (case k1 => walk_at "ev"); (case k2 => walk_at "ev"))
  | ((with_reducible refine' eg_ge ?k1 ?k2); (case k1 => walk_at "ev"); (case k2 => walk_at "ev"))
  | ((with_reducible refine' eg_neg ?k1); (case k1 => walk_at "ev"))
  | ((with_reducible refine' eg_ixT ?k1 ?k2 ?k3); (case k1 => walk_at "ev"); (case k2 => walk_at "ev"); (case k3 => exact rfl))
  | ((with_reducible refine' eg_ixL ?k1 ?k2 ?k3); (case k1 => walk_at "ev"); (case k2 => walk_at "ev"); (case k3 => exact rfl))
  | ((with_reducible refine' eg_tup ?k1 ?k2); (case k1 => walk_at "av"); (case k2 => exact le1000 rfl))
  | ((with_reducible refine' eg_lst ?k1 ?k2); (case k1 => walk_at "av"); (case k2 => exact le1000 rfl))
  | ((with_reducible refine' eg_isN ?k1 ?k2); (case k1 => walk_at "ev"); (case k2 => exact rfl))
  | ((with_reducible refine' eg_notN ?k1 ?k2); (case k1 => walk_at "ev"); (case k2 => exact rfl))
  | ((with_reducible refine' eg_eqI ?k1 ?k2); (case k1 => walk_at "ev"); (case k2 => walk_at "ev"))
  | ((with_reducible refine' eg_eqStr ?k1 ?k2); (case k1 => walk_at "ev"); (case k2 => walk_at "ev"))
  | assumption)
local macro_rules | `(tactic| walk_at "av") => `(tactic| first
  | with_reducible exact ag_nil
  | ((with_reducible refine' ag_cons ?k1 ?k2); (case k1 => walk_at "ev"); (case k2 => walk_at "av")))
local macro_rules | `(tactic| walk_at "tv") => `(tactic| first
  | ((with_reducible refine' tg_test ?k1); (case k1 => walk_at "ev"))
  | ((with_reducible refine' tg_B ?k1); (case k1 => walk_at "ev"))
  | ((with_reducible refine' tg_not ?k1); (case k1 => walk_at "tv")))
local macro_rules | `(tactic| walk_at "nm") => `(tactic| first | dsimp only [cxOf] | skip)

section
variable {B : Bs} {mg : Str → Option Value} {base : Heap}
theorem cut_mem {n : Nat} {hs : List (List Deed)} {h : List Deed} (hh : h ∈ cut n hs) : h ∈ hs := (List.mem_filter.mp hh).1
def S_blind (ds : List D) (e : D) : Prop := ∃ (T : Tw) (own : List Int) (n : Nat) (g : Int) (m : Str) (p : Rat) (mm : Int), ds = [tw T, .lst (own.map D.int), .int (n : Nat), .int g, .str m, fr p, .int mm] ∧ BlOk T own m p mm ∧ own.Nodup ∧ n ≤ 8 ∧ e = bsD ((cut n (plz T own [[]])).foldl (bs1 (mhc g m p true mm T)) none)
theorem ok_blind_looker (T : Txt B.K mg) : FnOk B.P B.w B.K mg base CX0 10 T.blind_looker.f T.blind_looker.d p_blind_looker (PSp B.P B.w B.K S_blind) := by
  have G_checked := ok_checked (base := base) T
  have G_look_unlike := ok_look_unlike (base := base) T
  have G_look_from := ok_look_from (base := base) T
  have G_look_key := ok_look_key (base := base) T
  have G_look_manner := ok_look_manner (base := base) T
  have G_look_chance := ok_look_chance (base := base) T
  have G_choices := ok_choices (base := base) T
  have G_mean_of := ok_mean_of (base := base) T
  have G_led := ok_led (base := base) T
  have G_is_less := ok_is_less (base := base) T
  refine fn_pure T.blind_looker.F sc_blind_looker (fun ds e h => by obtain ⟨_, _, _, _, _, _, _, rfl, _⟩ := h; rfl) fun pp cdv A outer s H E ds e hr hS => ⟨_, (pss_cons (ps_set (i := 7) sc_blind_looker.nd rfl (Or.inl rfl) (pe_call G_checked (hr.mono (by decide)) (by rfl) T.checked.g T.checked.F.kp T.checked.b .nil pass0 (pa_cons (pv 0) pa_nil))) (pss_cons (ps_expr (pe_call G_look_unlike (hr.mono (by decide)) (by rfl) T.look_unlike.g T.look_unlike.F.kp T.look_unlike.b .nil pass0 (pa_cons (pv 1) pa_nil))) (pss_cons (ps_expr (pe_call G_look_from (hr.mono (by decide)) (by rfl) T.look_from.g T.look_from.F.kp T.look_from.b .nil pass0 (pa_cons (pv 2) (pa_cons pe_int (pa_cons (pe_glob (by rfl) T.c_MOST_DEEDS.g T.c_MOST_DEEDS.r) pa_nil))))) (pss_cons (ps_expr (pe_call G_look_key (hr.mono (by decide)) (by rfl) T.look_key.g T.look_key.F.kp T.look_key.b .nil pass0 (pa_cons (pv 3) pa_nil))) (pss_cons (ps_expr (pe_call G_look_manner (hr.mono (by decide)) (by rfl) T.look_manner.g T.look_manner.F.kp T.look_manner.b .nil pass0 (pa_cons (pv 4) pa_nil))) (pss_cons (ps_expr (pe_call G_look_chance (hr.mono (by decide)) (by rfl) T.look_chance.g T.look_chance.F.kp T.look_chance.b .nil pass0 (pa_cons (pv 5) pa_nil))) (pss_cons (ps_expr (pe_call G_look_from (hr.mono (by decide)) (by rfl) T.look_from.g T.look_from.F.kp T.look_from.b .nil pass0 (pa_cons (pv 6) (pa_cons pe_int (pa_cons (pe_glob (by rfl) T.c_MOST_CAP_plans.g T.c_MOST_CAP_plans.r) pa_nil))))) (pss_cons (ps_set (i := 8) sc_blind_looker.nd rfl (Or.inl rfl) pe_non) (pss_cons (ps_for PassesOwn.never rfl (k_list (K := B.K) rfl (pe_call G_choices (hr.mono (by decide)) (by rfl) T.choices.g T.choices.F.kp T.choices.b .nil pass0 (pa_cons (pv 7) (pa_cons (pv 1) (pa_cons (pv 2) pa_nil))))) (pg_name (i := 9) sc_blind_looker.nd rfl (Or.inl rfl)) (pss_cons (ps_set (i := 10) sc_blind_looker.nd rfl (Or.inl rfl) (pe_call G_mean_of (hr.mono (by decide)) (by rfl) T.mean_of.g T.mean_of.F.kp T.mean_of.b .nil pass0 (pa_cons (pe_call G_led (hr.mono (by decide)) (by rfl) T.led.g T.led.F.kp T.led.b .nil pass0 (pa_cons (pe_ddisp1 (B := B) rfl rfl rfl hr.units (pv 7) (pe_tupF (pa_cons pe_int (pa_cons pe_int pa_nil)))) (pa_cons (pv 9) (pa_cons (pv 5) (pa_cons (pe_tupF (pa_cons pe_str (pa_cons (pv 6) pa_nil))) pa_nil))))) (pa_cons (pv 3) (pa_cons (pv 4) pa_nil))))) (pss_one (ps_if (PW.pt (pw_or (pt_cmpR op_isNn (pv 8) pe_non (nomark _)) (pw_or (pt_val (pe_call G_is_less (hr.mono (by decide)) (by rfl) T.is_less.g T.is_less.F.kp T.is_less.b .nil pass0 (pa_cons (pe_ix (k_ix (K := B.K) rfl) (pv 8) pe_int (fun _ _ => rfl)) (pa_cons (pv 10) pa_nil)))) (pw_or1 (PW.pt (pw_and (pt_cmpR (k_eq (K := B.K) rfl hr.units) (pv 10) (pe_ix (k_ix (K := B.K) rfl) (pv 8) pe_int (fun _ _ => rfl)) (nomark _)) (pw_and1 (pt_cmpR op_lt (pe_callB (k_len (K := B.K) rfl) (by rfl) T.m_len (by decide +kernel) (pa_cons (pv 9) pa_nil)) (pe_callB (k_len (K := B.K) rfl) (by rfl) T.m_len (by decide +kernel) (pa_cons (pe_ix (k_ix (K := B.K) rfl) (pv 8) pe_int (fun _ _ => rfl)) pa_nil)) (nomark _))))))))) (pss_one (ps_set (i := 8) sc_blind_looker.nd rfl (Or.inl rfl) (pe_tupF (pa_cons (pv 10) (pa_cons (pv 9) pa_nil))))) pss_nil)))) (pss_one (ps_ret (pv 8)))))))))))), ?_⟩
  obtain ⟨Tv, own, n, g, m, p, mm, rfl, hb, hnd, hn8, rfl⟩ := hS
  obtain ⟨w, ho, hm, hc, m1, m3⟩ := id hb
  obtain ⟨t1, t2⟩ := wk_ok w (by omega)
  have hch : ChOk p.num p.den := hc.ok
  refine sg_ctx [some (tw Tv), some (.lst (own.map D.int)), some (.int (n : Nat)), some (.int g), some (.str m), some (fr p), some (.int mm), none, none, none, none] rfl ?_
  refine sg_seq (sg_asg (eg_call (by walk_at "av") ⟨Tv, rfl, t1, rfl⟩) ?_)
  refine sg_seq (sg_drop (eg_call (d := .non) (by walk_at "av") ⟨true, own, rfl, hnd, by omega, rfl⟩) ?_)
  refine sg_seq (sg_drop (eg_call (d := .non) (by walk_at "av") ⟨(n : Nat), 0, 8, rfl, by omega, by omega, rfl⟩) ?_)
  refine sg_seq (sg_drop (eg_call (d := .non) (by walk_at "av") ⟨g, rfl, rfl⟩) ?_)
  refine sg_seq (sg_drop (eg_call (d := .non) (by walk_at "av") ⟨m, rfl, hm, rfl⟩) ?_)
  refine sg_seq (sg_drop (eg_call (d := .non) (by walk_at "av") ⟨false, p.num, p.den, rfl, hch.1, hch.2.1, hch.2.2, rfl⟩) ?_)
  refine sg_seq (sg_drop (eg_call (d := .non) (by walk_at "av") ⟨mm, 1, 3, rfl, m1, m3, rfl⟩) ?_)
  refine sg_seq (sg_asg (by walk_at "ev") ?_)
  have hpl : ∀ h ∈ cut n (plz Tv own [[]]), PlOk Tv h p mm := fun h hh => hb.pl (cut_mem hh)
  have hsm : ∀ h ∈ cut n (plz Tv own [[]]), sm (mhc g m p true mm Tv h) := fun h hh => mhc_sm g m true (hpl h hh)
  obtain ⟨ps, hps⟩ : ∃ ps, cut n (plz Tv own [[]]) = ps := ⟨_, rfl⟩
  rw [hps] at hpl hsm ⊢
  refine sg_seq (sg_for (ds := ps.map plD) (wg_list (eg_call (by walk_at "av") ⟨Tv, own, n, rfl, t1, ho, by rw [hps]⟩)) (fun i Γ => ∃ y9 y10 : Option D, Γ = [some (tw Tv), some (.lst (own.map D.int)), some (.int (n : Nat)), some (.int g), some (.str m), some (fr p), some (.int mm), some (tw Tv), some (bsD ((ps.take i).foldl (bs1 (mhc g m p true mm Tv)) none)), y9, y10]) ⟨none, none, rfl⟩ ?_ ?_)
  · rintro i d Γ hd ⟨y9, y10, rfl⟩
    obtain ⟨h, hi, rfl⟩ := map_get hd
    have hh := List.mem_of_getElem? hi
    have hp := hpl h hh
    have e1 : (ps.take (i + 1)).foldl (bs1 (mhc g m p true mm Tv)) none = bs1 (mhc g m p true mm Tv) ((ps.take i).foldl (bs1 (mhc g m p true mm Tv)) none) h := by
      rw [List.take_add_one, hi, List.foldl_append]
      rfl
    rw [e1]
    have hbs := bs_in (mhc g m p true mm Tv) (ps.take i) none (fun b z => nomatch z) (fun x hx => ⟨hsm x (List.mem_of_mem_take hx), (hpl x (List.mem_of_mem_take hx)).2.1⟩)
    generalize (ps.take i).foldl (bs1 (mhc g m p true mm Tv)) none = a at hbs ⊢
    refine ⟨_, _, gg_name, ?_⟩
    refine sg_seq (sg_asg (d := fr (mhc g m p true mm Tv h)) (eg_call (ag_cons (eg_call (d := .dn ((h.foldl (dst1 p true mm) [(Tv, 1)]).map kvD)) (ag_cons (eg_is (e := .dn [kvD (Tv, 1)]) (eg_ddisp1 (B := B.at pp) (ds := Tv.map pr) (vd := fr 1) (by walk_at "ev") (eg_is (eg_tup (ag_cons eg_int (ag_cons eg_int ag_nil)) (le1000 rfl)) fr_one.symm) (tw_k Tv).2 (tw_depth Tv) (fz_tw Tv) rfl) rfl) (ag_cons (d := .lst (h.map dD)) (eg_var rfl) (ag_cons (by walk_at "ev") (ag_cons (eg_is (e := .tup (rl true mm)) (eg_tup (ag_cons eg_str (ag_cons (by walk_at "ev") ag_nil)) (le1000 rfl)) rfl) ag_nil)))) ⟨Tv, h, p, true, mm, rfl, hp, rfl⟩) (by walk_at "av")) ⟨h.foldl (dst1 p true mm) [(Tv, 1)], g, m, 16, 6561, rfl, sts_ledD hp, by rw [mhc_d]⟩) ?_)
    cases a with
    | none =>
      refine sg_if (tg_or (a := true) (b := false) (tg_test (eg_isN (d := .non) (eg_var rfl) (b := true) rfl)) fun h => absurd h (by decide)) (fun _ => ?_) fun h => absurd h (by decide)
      refine sg_asg (d := bsD (some (mhc g m p true mm Tv h, h))) (eg_is (eg_tup (ag_cons (by walk_at "ev") (ag_cons (d := plD h) (eg_var rfl) ag_nil)) (le1000 rfl)) rfl) ?_
      exact ⟨_, _, rfl⟩
    | some b =>
      have hsb := hbs b rfl
      refine sg_if (tg_or (a := false) (b := decide (b.1 < mhc g m p true mm Tv h) || decide (mhc g m p true mm Tv h = b.1) && decide (h.length < b.2.length)) (tg_test (eg_isN (d := .tup [fr b.1, plD b.2]) (eg_var rfl) (b := false) rfl)) fun _ => tg_or (tg_B (eg_call (ag_cons (eg_ixT (ds := [fr b.1, plD b.2]) (eg_var rfl) eg_int rfl) (by walk_at "av")) ⟨b.1, mhc g m p true mm Tv h, rfl, hsb.1, hsm h hh, rfl⟩)) fun _ => tg_and (tg_test (eg_eqK (by walk_at "ev") (eg_ixT (ds := [fr b.1, plD b.2]) (eg_var rfl) eg_int rfl) (fr_k _).1 (fr_k _).1 (fr_k _).2 (fr_k _).2 fr_inj)) fun _ => tg_is (tg_test (eg_lt (i := ((h.map dD).length : Int)) (j := ((b.2.map dD).length : Int)) (eg_bi (ag_cons (d := .lst (h.map dD)) (eg_var rfl) ag_nil) cg_lenL) (eg_bi (ag_cons (d := .lst (b.2.map dD)) (eg_ixT (ds := [fr b.1, plD b.2]) (eg_var rfl) eg_int rfl) ag_nil) cg_lenL))) (by rw [List.length_map, List.length_map, dec_lt])) (fun hz => ?_) fun hz => sg_next ?_
      · rw [Bool.false_or] at hz
        refine sg_asg (d := bsD (some (mhc g m p true mm Tv h, h))) (eg_is (eg_tup (ag_cons (by walk_at "ev") (ag_cons (d := plD h) (eg_var rfl) ag_nil)) (le1000 rfl)) rfl) ?_
        unfold bs1
        dsimp only
        rw [if_pos hz]
        exact ⟨_, _, rfl⟩
      · rw [Bool.false_or] at hz
        unfold bs1
        dsimp only
        rw [if_neg (by rw [hz]; exact Bool.false_ne_true)]
        exact ⟨_, _, rfl⟩
  · rintro Γ ⟨y9, y10, rfl⟩
    rw [List.length_map, List.take_length]
    exact sg_ret (by walk_at "ev") rfl
end
end Tl
end
section
set_option Elab.async false
set_option linter.all false
set_option maxRecDepth 100000
set_option maxHeartbeats 2000000
set_option autoImplicit false
/-! Comprehensions and walks beside an object that changes. -/
namespace Tl
open PySem PySem.Spec PyProof.Rows L2
section
variable (B : Bs) {ι : Type} (J : ι → Hp → Prop)
def WJ (wi : TI) (Γ : Gm) (m : ι) (ds : List D) : Prop := ∀ (σ : L2.St) (H : Hp), Rep B H σ Γ → J m H → ∀ Rq : It → Hp → Prop,
  (∀ (J : It) (H1 : Hp) (G : Hp → Prop) (Y : Nat → Hp → V → Hp → Prop), Same H H1 → Walk J ds.length G Y → (∀ (pp' : Addr → Prop) (H' : Hp), Ex B H1 pp' → Sm (B.at pp') H1 H' → G H') →
    (∀ (pp' : Addr → Prop) (i : Nat) (H' : Hp) (x : V) (H2 : Hp) (d : D), Ex B H1 pp' → Sm (B.at pp') H1 H' → ds[i]? = some d → Y i H' x H2 → Same H' H2 ∧ R (B.at pp') H2 x d) → Rq J H1) → wi σ H Rq
end
section
variable {B : Bs} {p : Addr} {Rr : Hp → V → D → Prop} {ι : Type} {J : ι → Hp → Prop} {Γ : Gm} {m : ι} {t u : TS} {O : OutI ι → Prop} {te tb : TE} {ta : TA} {d e f : D}
theorem wj_of {wi : TI} {ds : List D} (h : WG B wi Γ ds) : WJ B J wi Γ m ds := fun σ H r _ Rq q => h σ H r Rq q
/-- a walk of a value that is read with the object as it is -/
theorem wj_tup {ds : List D} (h : EJ B J te Γ m (.tup ds)) : WJ B J (iTup B.K te) Γ m ds := fun σ H r j Rq q => by
  have z := wg_tup (B := B) (Γ := Γ) (ds := ds) (te := fun σ' H' Q' => σ' = σ → H' = H → te σ H Q') (fun σ' H' r' Q' q' e1 e2 => by subst e1; subst e2; exact h σ' H' r' j Q' q') σ H r Rq q
  exact z rfl rfl
theorem wj_ltL {ds : List D} (h : EJ B J te Γ m (.lst ds)) : WJ B J (iLT B.K te) Γ m ds := fun σ H r j Rq q => by
  have z := wg_ltL (B := B) (Γ := Γ) (ds := ds) (te := fun σ' H' Q' => σ' = σ → H' = H → te σ H Q') (fun σ' H' r' Q' q' e1 e2 => by subst e1; subst e2; exact h σ' H' r' j Q' q') σ H r Rq q
  exact z rfl rfl
theorem wj_ltT {ds : List D} (h : EJ B J te Γ m (.tup ds)) : WJ B J (iLT B.K te) Γ m ds := fun σ H r j Rq q => by
  have z := wg_ltT (B := B) (Γ := Γ) (ds := ds) (te := fun σ' H' Q' => σ' = σ → H' = H → te σ H Q') (fun σ' H' r' Q' q' e1 e2 => by subst e1; subst e2; exact h σ' H' r' j Q' q') σ H r Rq q
  exact z rfl rfl
theorem ej_lc {α : Type} {wi : TI} {g : TG} {tt : TT} {vs : List Nat} {xs : List α} {ee : α → D} {js : List Nat} (f : α → Bool) (fn : α → D) (hw : WJ B J wi Γ m (xs.map ee)) (hj : ∀ j ∈ js, j ∈ vs) (hl : xs.length ≤ 100000)
    (hs : ∀ x ∈ xs, ∃ Γ1, GG B g js (ee x) (wipeG Γ vs) Γ1 ∧ TGd B tt Γ1 (f x) ∧ (f x = true → EG B te Γ1 (fn x) ∧ fz (fn x) = true)) : EJ B J (tLc wi g tt te vs) Γ m (.lst ((xs.filter f).map fn)) := fun σ H r j Q q => by
  have z := eg_lc (B := B) (Γ := Γ) (te := te) (tt := tt) (g := g) (vs := vs) (wi := fun σ' H' R' => σ' = σ → H' = H → wi σ H R') f fn (fun σ' H' r' Rq q' e1 e2 => by subst e1; subst e2; exact hw σ' H' r' j Rq q') hj hl hs σ H r Q q
  exact z rfl rfl
theorem si_forJ (hJ : Stb J) (hp : B.pp p) {wi : TI} {g : TG} {ds : List D} (hw : WJ B J wi Γ m ds) (I : Nat → Gm → ι → Prop) (h0 : I 0 Γ m)
    (hs : ∀ (i : Nat) (d : D) (Γ' : Gm) (m' : ι), ds[i]? = some d → I i Γ' m' → ∃ js Γ1, GG B g js d Γ' Γ1 ∧ SI B p Rr J t Γ1 m' (loopI (I (i + 1)) O)) (hd : ∀ Γ' m', I ds.length Γ' m' → O (.nx Γ' m')) : SI B p Rr J (tFor wi g t) Γ m O := fun σ H E r j n q b c => by
  have z := si_for (B := B) (p := p) (Rr := Rr) (J := J) (Γ := Γ) (m := m) (t := t) (O := O) hJ hp (g := g) (ds := ds) (wi := fun σ' H' R' => σ' = σ → H' = H → wi σ H R') (fun σ' H' r' Rq q' e1 e2 => by subst e1; subst e2; exact hw σ' H' r' j Rq q') I h0 hs hd σ H E r j n q b c
  exact z rfl rfl
/-- what a list that came later may become -/
def Mv (p : Addr) (J : ι → Hp → Prop) : Prop := ∀ (m0 m : ι) (H0 H : Hp) (Dd : Addr) (acc acc' : List V), J m0 H0 → H0 Dd = none → Sp p H0 H → H Dd = some (.lst acc) → J m H → J m (upd H Dd (.lst acc'))
theorem Sp.upd_new {H H' : Hp} {Dd : Addr} {o : HO} (s : Sp p H H') (h : H Dd = none) : Sp p H (L2.upd H' Dd o) := ⟨fun a u n e => by
  rw [upd_ne (ne_of_none e h)]
  exact s.off a u n e, fun a ob u e => by
  rw [upd_ne (ne_of_none e h)]
  exact s.fz a ob u e, fun a n => by
  by_cases z : a = Dd
  · rw [z, upd_same]; exact fun q => nomatch q
  · rw [upd_ne z]; exact s.th a n⟩
theorem ei_lc {α : Type} {wi : TI} {g : TG} {vs : List Nat} {xs : List α} {ee : α → D} {js : List Nat} {Oe : D → ι → Prop} (fn : α → D) (hJ : Stb J) (hM : Mv p J) (hp : B.pp p) (hw : WG B wi Γ (xs.map ee)) (hj : ∀ j ∈ js, j ∈ vs) (hl : xs.length ≤ 100000) (I : Nat → ι → Prop) (h0 : I 0 m)
    (hz : ∀ x ∈ xs, fz (fn x) = true) (hs : ∀ (i : Nat) (x : α) (m' : ι), xs[i]? = some x → I i m' → ∃ Γ1, GG B g js (ee x) (wipeG Γ vs) Γ1 ∧ EI B p J te Γ1 m' (fun d m2 => d = fn x ∧ I (i + 1) m2)) (ho : ∀ m', I xs.length m' → Oe (.lst (xs.map fn)) m') : EI B p J (tLc wi g tYes te vs) Γ m Oe := fun σ H r j Q q =>
  hw σ H r _ fun JJ H1 G Y e1 w hG hY Dd hD => by
    rw [List.length_map] at w
    have j1 := hJ _ _ _ e1 j
    have hpn : Dd ≠ p := fun z => (r.ext e1).pp p hp (z ▸ hD)
    refine lc_it w (fun i H' => ∃ m' acc, H' Dd = some (.lst acc) ∧ Sp p H1 H' ∧ J m' H' ∧ RA B H' acc ((xs.take i).map fn) ∧ I i m') ⟨m, [], upd_same, .of (same_new hD), hJ _ _ _ (same_new hD) j1, by rw [List.take_zero]; exact .nil, h0⟩ (fun i H' hi ⟨m', acc, h1, h2, h3, h4, h5⟩ => hG B.pp H' (Ex.refl B H1) (h2.sm hp)) ?_ ?_
    · rintro i x H' H2 hi ⟨m', acc, h1, h2, h3, h4, h5⟩ y
      have hx : xs[i]? = some xs[i] := List.getElem?_eq_getElem hi
      have hd' : (xs.map ee)[i]? = some (ee xs[i]) := by rw [List.getElem?_map, hx]; rfl
      obtain ⟨s2, rx⟩ := hY B.pp i H' x H2 _ (Ex.refl B H1) (h2.sm hp) hd' y
      obtain ⟨Γ1, hg, he⟩ := hs i xs[i] m' hx h5
      have r2 : Rep B H2 (L2.wipe σ vs) (wipeG Γ vs) := (((r.ext e1).sm (h2.sm hp)).ext s2).wipe vs
      refine hg _ H2 x r2 rx _ fun σ2 r3 hw2 => ⟨(hw2 vs hj).trans wipe_idem, ?_⟩
      unfold tYes
      dsimp only
      rw [if_pos rfl]
      refine he σ2 H2 r3 (hJ _ _ _ s2 h3) _ fun yv H4 dd m2 s4 j4 ry ⟨hdd, h6⟩ => ?_
      subst hdd
      have hD4 : H4 Dd = some (.lst acc) := s4.off Dd _ hpn (s2 _ _ h1)
      have s14 : Sp p H1 H4 := h2.trans ((Sp.of s2).trans s4)
      have hlen : acc.length < sizeLine := by
        have z1 := h4.length
        rw [List.length_map] at z1
        have z3 : (xs.take i).length ≤ i := by rw [List.length_take]; omega
        rw [sizeLine_eq]
        omega
      refine ⟨acc, hD4, hlen, m2, acc ++ [yv], upd_same, s14.upd_new hD, hM m m2 H1 H4 Dd acc _ j1 hD s14 hD4 j4, ?_, h6⟩
      rw [List.take_add_one, hx, List.map_append]
      refine RA.append ?_ (.cons (ry.frz (tk_lst hD4) (hz _ (List.getElem_mem hi))) .nil)
      refine (((h4.ext s2).sm (s4.sm hp))).frz (tk_lst hD4) (fzs_mem fun d hd => ?_)
      obtain ⟨x', hx', rfl⟩ := List.mem_map.mp hd
      exact hz x' (List.mem_of_mem_take hx')
    · rintro H' ⟨m', acc, h1, h2, h3, h4, h5⟩
      rw [List.take_length] at h4
      exact q _ H' _ m' ((Sp.of e1).trans h2) h3 (.lst h1 ((r.ext e1).pp.new hD) h4) (ho m' h5)
/-! more that is read -/
theorem ej_tup {ds : List D} (h : AJ B J ta Γ m ds) (hl : ds.length ≤ 1000) : EJ B J (tTupF ta) Γ m (.tup ds) := fun σ H w j Q q => by
  have z := eg_tup (B := B) (Γ := Γ) (ds := ds) (t := fun σ' H' Q' => σ' = σ → H' = H → ta σ H Q') (fun σ' H' r' Q' q' e1 e2 => by subst e1; subst e2; exact h σ' H' r' j Q' q') hl σ H w Q q
  exact z rfl rfl
theorem ej_if (hJ : Stb J) {tt : TT} {b : Bool} {ta tb : TE} (h : TJ B J tt Γ m b) (h1 : b = true → EJ B J ta Γ m d) (h2 : b = false → EJ B J tb Γ m d) : EJ B J (tIf tt ta tb) Γ m d := fun σ H w j Q q => h σ H w j _ fun H1 e1 => by
  cases b with
  | true => exact h1 rfl σ H1 (w.ext e1) (hJ _ _ _ e1 j) Q fun v H2 e2 r2 => q v H2 (e1.trans e2) r2
  | false => exact h2 rfl σ H1 (w.ext e1) (hJ _ _ _ e1 j) Q fun v H2 e2 r2 => q v H2 (e1.trans e2) r2
theorem ej_ixT {ds : List D} {i : Int} (hJ : Stb J) (ha : EJ B J te Γ m (.tup ds)) (hb : EJ B J tb Γ m (.int i)) (h : atI ds i = some d) : EJ B J (tOp (rIxA B.K) te tb) Γ m d := fun σ H w j Q q => by
  refine ha σ H w j _ fun x H1 e1 r1 => hb σ H1 (w.ext e1) (hJ _ _ _ e1 j) _ fun y H2 e2 r2 => ?_
  have z := eg_ixT (B := B) (Γ := [some (.tup ds), some (.int i)]) (ta := tVar 0) (tb := tVar 1) (ds := ds) (i := i) (d := d) (eg_var rfl) (eg_var rfl) h [some x, some y] H2 ⟨((w.ext e1).ext e2).pp, rfl, fun k dd hk => by
    match k, hk with
    | 0, hk => cases hk; exact ⟨x, rfl, r1.ext e2⟩
    | 1, hk => cases hk; exact ⟨y, rfl, r2⟩
    | k + 2, hk => simp at hk⟩ Q fun v H3 e3 r3 => q v H3 (e1.trans (e2.trans e3)) r3
  obtain ⟨x', hx', y', hy', z⟩ := z
  cases hx'
  cases hy'
  exact z
theorem si_parJ (hJ : Stb J) (hp : B.pp p) {i k : Nat} (h : AJ B J ta Γ m [d, e]) (o : O (.nx ((Γ.set i (some d)).set k (some e)) m)) : SI B p Rr J (tPar i k ta) Γ m O := si_par hp fun σ H r j Q q => h σ H r j Q fun vs H' e' r' => q vs H' [d, e] m (.of e') (hJ _ _ _ e' j) r' ⟨d, e, rfl, o⟩
end
end Tl
end
section
set_option Elab.async false
set_option linter.all false
set_option maxRecDepth 100000
set_option maxHeartbeats 2000000
set_option autoImplicit false
set_option exponentiation.threshold 10000

/-! The looker's instance and its memory. -/
namespace Tl
open PySem PySem.Spec PyProof.Rows L2
section
/-- statements beside an object that stays as it is -/
def SJ (B : Bs) {ι : Type} (J : ι → Hp → Prop) (ts : TS) (Γ : Gm) (m : ι) (d : D) : Prop := ∀ (σ : L2.St) (H : Hp) (E : Ends), Rep B H σ Γ → J m H → (∀ v H', Same H H' → R B H' v d → E.rt v H') → ts E σ H
variable {B : Bs} {ι : Type} {J : ι → Hp → Prop} {Γ : Gm} {m : ι} {te : TE} {d e : D} {u : TS} {i : Nat}
theorem sj_asg (hJ : Stb J) (h : EJ B J te Γ m e) (k : SJ B J u (Γ.set i (some e)) m d) : SJ B J (tSeq (tAsg te (gName i)) u) Γ m d := fun σ H E r j q => h σ H r j _ fun v H1 e1 r1 =>
  k _ H1 E ((r.ext e1).set i r1) (hJ _ _ _ e1 j) fun w H2 e2 r2 => q w H2 (e1.trans e2) r2
theorem sj_ret (h : EJ B J te Γ m d) : SJ B J (tRet te) Γ m d := fun σ H E r j q => h σ H r j _ q
theorem og_eg {r : R2} {x y f : D} (h : EG B (tOp r (tVar 0) (tVar 1)) [some x, some y] f) : OG B r x y f := fun H v w pq rv rw' Q q => by
  have z := h [some v, some w] H ⟨pq, rfl, fun k dd hk => by
    match k, hk with
    | 0, hk => cases hk; exact ⟨v, rfl, rv⟩
    | 1, hk => cases hk; exact ⟨w, rfl, rw'⟩
    | k + 2, hk => simp at hk⟩ Q q
  obtain ⟨x', hx', y', hy', z⟩ := z
  cases hx'
  cases hy'
  exact z
theorem og_ixT {ds : List D} {i : Int} (h : atI ds i = some d) : OG B (rIxA B.K) (.tup ds) (.int i) d := og_eg (eg_ixT (ds := ds) (i := i) (eg_var rfl) (eg_var rfl) h)
end
structure Lkr where
  a : Addr
  p : Addr
  dx : Addr
  fs : List (Str × V)
  vo : V
  vc : V
  vr : V
  own : List Int
  g : Int
  m : Str
  q : Rat
  c : Bool
  mm : Int
  l1 : Bool
  l2 : Bool
def Lkr.V (k : Lkr) (n : Nat) (T : Tw) : Rat × Option Deed := vl (cN k.g k.m) k.own k.q k.c k.mm n T
structure LkS (k : Lkr) : Prop where
  ne : k.a ≠ k.p
  f1 : k.fs.lookup ("own" : Str) = some k.vo
  f2 : k.fs.lookup ("goal" : Str) = some (.int k.g)
  f3 : k.fs.lookup ("manner" : Str) = some (.str k.m)
  f4 : k.fs.lookup ("chance" : Str) = some k.vc
  f5 : k.fs.lookup ("rule" : Str) = some k.vr
  f6 : k.fs.lookup ("memo" : Str) = some (.ref k.p)
  n1 : k.fs.lookup ("deeds_in" : Str) = none
  n2 : k.fs.lookup ("best" : Str) = none
  hc : ChR k.q
  m1 : 1 ≤ k.mm
  m3 : k.mm ≤ 3
  ho : k.own.length ≤ 10
abbrev keyD (T : Tw) (n : Nat) : D := .tup [tw T, .int (n : Nat)]
def Good (k : Lkr) (kv : List (D × D)) : Prop := ∀ e ∈ kv, ∃ (T : Tw) (n : Nat), e.1 = keyD T n ∧ e.2 = vlD (k.V n T)
/-- what stands while it looks; B with the memory open -/
def MJ (B : Bs) (C : Addr) (k : Lkr) (kv : List (D × D)) (H : Hp) : Prop := (H k.a = some (.ins C k.dx k.fs) ∧ R (B.op k.p) H k.vo (.tup (k.own.map D.int)) ∧ R (B.op k.p) H k.vc (row k.l1 (chD k.q.num k.q.den)) ∧ R (B.op k.p) H k.vr (row k.l2 (rl k.c k.mm))) ∧ LkS k ∧ DJ B k.p kv H ∧ Good k kv
section
variable {B : Bs} {C : Addr} {k : Lkr}
theorem mj_stb : Stb (MJ B C k) := fun kv H H' e ⟨⟨h1, h2, h3, h4⟩, s, h5, h6⟩ => ⟨⟨e _ _ h1, h2.ext e, h3.ext e, h4.ext e⟩, s, dj_stb _ _ _ e h5, h6⟩
theorem fzs_int : ∀ ns : List Int, fzs (ns.map D.int) = true
  | [] => by rw [List.map_nil, fzs]
  | n :: ns => by
    rw [List.map_cons, fzs, fzs_int ns]
    rfl
theorem fz_vl (x : Rat × Option Deed) : fz (vlD x) = true := by
  obtain ⟨q, o⟩ := x
  unfold vlD
  cases o <;> rfl
theorem fz_key (T : Tw) (n : Nat) : fz (keyD T n) = true := by
  rw [fz, fzs, fz_tw]
  rfl
theorem RE.frz {H H' : Hp} (t : Tk B H H') : ∀ {es : List (NestedKey × Addr × V)} {kvs : List (D × D)}, RE B H es kvs → (∀ e ∈ kvs, fz e.1 = true ∧ fz e.2 = true) → RE B H' es kvs
  | _, _, .nil, _ => .nil
  | _, _, .cons h1 h2 r1 r2 r3, h => .cons h1 h2 (R.frz t r1 (h _ List.mem_cons_self).1) (R.frz t r2 (h _ List.mem_cons_self).2) (RE.frz t r3 fun e he => h e (List.mem_cons_of_mem _ he))
theorem good_fz {kv : List (D × D)} (h : Good k kv) : ∀ e ∈ kv, fz e.1 = true ∧ fz e.2 = true := fun e he => by
  obtain ⟨T, n, e1, e2⟩ := h e he
  rw [e1, e2]
  exact ⟨fz_key T n, fz_vl _⟩
/-- a row of flat data, when a list that came later changes -/
theorem row_mv {H0 H : Hp} {v : V} {l : Bool} {ds : List D} {Dd : Addr} {acc acc' : List V} (hf : fzs ds = true) (h0 : R B H0 v (row l ds)) (hn : H0 Dd = none) (hD : H Dd = some (.lst acc)) (h : R B H v (row l ds)) : R B (upd H Dd (.lst acc')) v (row l ds) := by
  cases l with
  | false =>
    refine R.frz (tk_lst hD) h ?_
    show fz (.tup ds) = true
    rw [fz]
    exact hf
  | true =>
    obtain ⟨a, xs, rfl, hx, rx⟩ := (show R B H0 v (.lst ds) from h0).lst_inv
    cases (show R B H (.ref a) (.lst ds) from h) with
    | lst ha hnp ra => exact .lst (by rw [upd_ne (ne_of_none hx hn)]; exact ha) hnp (ra.frz (tk_lst hD) hf)
theorem mj_mv : Mv k.p (MJ B C k) := fun m0 m H0 H Dd acc acc' j0 hn s hD j => by
  obtain ⟨⟨a1, a2, a3, a4⟩, _, ⟨ob0, es0, a5, _⟩, _⟩ := j0
  obtain ⟨⟨b1, b2, b3, b4⟩, b5, ⟨ob, es, b6, b7⟩, b8⟩ := j
  refine ⟨⟨?_, ?_, row_mv rfl a3 hn hD b3, row_mv rfl a4 hn hD b4⟩, b5, ⟨ob, es, ?_, b7.frz (tk_lst hD) (good_fz b8)⟩, b8⟩
  · rw [upd_ne (ne_of_none a1 hn)]; exact b1
  · refine R.frz (tk_lst hD) b2 ?_
    rw [fz]
    exact fzs_int _
  · rw [upd_ne (ne_of_none a5 hn)]; exact b6
/-! reading it -/
section
variable {Γ : Gm} {kv : List (D × D)} {tk' : TE}
theorem ej_fld {f : Str} {d : D} (hC : Cls B.K C) (hN : NoAttr B.K C f) (h0 : Γ[0]? = some (some (.raw (.ref k.a)))) (h : ∀ H, MJ B C k kv H → ∃ v, k.fs.lookup f = some v ∧ R (B.op k.p) H v d) : EJ (B.op k.p) (MJ B C k) (tFld B.K (tVar 0) f) Γ kv d := fun σ H r j Q q => by
  obtain ⟨w, hw, rw'⟩ := r.at_ 0 _ h0
  obtain rfl := rw'.raw_inv
  obtain ⟨v, hv, rv⟩ := h H j
  exact ⟨_, hw, k.a, C, k.dx, k.fs, v, rfl, j.1.1, hC, hN, hv, q v H (Same.refl H) rv⟩
theorem key_nk {S T : Tw} {i j : Nat} : nk (keyD S i) = nk (keyD T j) ↔ S = T ∧ i = j := by
  constructor
  · intro h
    rw [nk, nk, nks, nks, nks, nks, nks, nks] at h
    have h1 := NestedKey.tup.inj h
    obtain ⟨h2, h3⟩ := List.cons.inj h1
    obtain ⟨h4, _⟩ := List.cons.inj h3
    rw [nk, nk] at h4
    exact ⟨nk_tw.mp h2, by have := NestedKey.num.inj h4; omega⟩
  · rintro ⟨rfl, rfl⟩
    rfl
theorem key_kb (T : Tw) (n : Nat) : kb (keyD T n) = true := by
  rw [kb, kbs, (tw_k T).2]
  rfl
theorem key_depth (T : Tw) (n : Nat) : (nk (keyD T n)).depth ≤ 8 := by
  have h : ∀ T : Tw, NestedKey.depthAll (nks (T.map pr)) ≤ 1 := by
    intro T
    induction T with
    | nil => exact Nat.zero_le _
    | cons p T ih =>
      rw [List.map_cons, nks, NestedKey.depthAll]
      have : (nk (pr p)).depth = 1 := rfl
      omega
  have e : (nk (keyD T n)).depth = max ((nk (tw T)).depth) (max ((nk (.int (n : Nat))).depth) 0) + 1 := rfl
  have e2 : (nk (tw T)).depth = NestedKey.depthAll (nks (T.map pr)) + 1 := rfl
  have e3 : (nk (.int (n : Nat))).depth = 0 := rfl
  have := h T
  rw [e, e2, e3]
  omega
theorem good_find {T : Tw} {n : Nat} {x : D} (h : Good k kv) (hf : dFind kv (nk (keyD T n)) = some x) : x = vlD (k.V n T) := by
  unfold dFind at hf
  obtain ⟨e, he, rfl⟩ := Option.map_eq_some_iff.mp hf
  obtain ⟨S, i, e1, e2⟩ := h e (List.mem_of_find?_eq_some he)
  have z := List.find?_some he
  have z := of_decide_eq_true z
  rw [e1] at z
  obtain ⟨rfl, rfl⟩ := key_nk.mp z
  exact e2
theorem ej_memN {T : Tw} {n : Nat} {tm : TE} (hm : EJ (B.op k.p) (MJ B C k) tm Γ kv (.raw (.ref k.p))) (hk : EG (B.op k.p) tk' Γ (keyD T n)) : EJ (B.op k.p) (MJ B C k) (tOp (rNdIn B true) tk' tm) Γ kv (.bl (!(dFind kv (nk (keyD T n))).isSome)) := fun σ H r j Q q => by
  refine hk σ H r _ fun x H1 e1 rx => hm σ H1 (r.ext e1) (mj_stb _ _ _ e1 j) _ fun y H2 e2 ry => ?_
  obtain rfl := ry.raw_inv
  obtain ⟨a, xs, rfl, hx, rxs⟩ := rx.tup_inv
  obtain ⟨_, _, ⟨ob, es, hd, re⟩, _⟩ := mj_stb _ _ _ (e1.trans e2) j
  refine ⟨a, k.p, ob, es, nk (keyD T n), rfl, rfl, .inl hd, re_kh (B := B.op k.p) re, ⟨(B.op k.p).pp, _, key_kb T n, key_depth T n, rfl, rx.ext e2⟩, q _ H2 (e1.trans e2) ?_⟩
  rcases re_find (nk (keyD T n)) re with ⟨g1, g2⟩ | ⟨v, d, g1, g2, g3⟩
  · rw [g1, g2]; exact .bl _
  · rw [g1, g2]; exact .bl _
theorem ej_memG {T : Tw} {n : Nat} {tm : TE} (hm : EJ (B.op k.p) (MJ B C k) tm Γ kv (.raw (.ref k.p))) (hk : EG (B.op k.p) tk' Γ (keyD T n)) (hf : (dFind kv (nk (keyD T n))).isSome = true) : EJ (B.op k.p) (MJ B C k) (tOp (rNdIx B) tm tk') Γ kv (vlD (k.V n T)) := fun σ H r j Q q => by
  refine hm σ H r j _ fun y H1 e1 ry => hk σ H1 (r.ext e1) _ fun x H2 e2 rx => ?_
  obtain rfl := ry.raw_inv
  obtain ⟨a, xs, rfl, hx, rxs⟩ := rx.tup_inv
  obtain ⟨_, _, ⟨ob, es, hd, re⟩, hg⟩ := mj_stb _ _ _ (e1.trans e2) j
  rcases re_find (nk (keyD T n)) re with ⟨g1, g2⟩ | ⟨v, d, g1, g2, g3⟩
  · rw [g2] at hf; cases hf
  · have e := good_find hg g2
    subst e
    exact ⟨a, k.p, ob, es, nk (keyD T n), v, rfl, rfl, .inl hd, re_kh (B := B.op k.p) re, ⟨(B.op k.p).pp, _, key_kb T n, key_depth T n, rfl, rx⟩, g1, q v H2 (e1.trans e2) g3⟩
theorem dPut_len {kd vd : D} : (dPut kv kd vd).length ≤ kv.length + 1 := by
  unfold dPut
  split
  · rw [List.length_map]; omega
  · rw [List.length_append, List.length_singleton]; omega
theorem dPut_some {kd vd : D} : (dFind (dPut kv kd vd) (nk kd)).isSome = true := by
  unfold dPut
  split
  · rename_i h
    unfold dFind at h ⊢
    rw [Option.isSome_map, List.find?_isSome] at h ⊢
    obtain ⟨e, he, h1⟩ := h
    refine ⟨_, List.mem_map.mpr ⟨e, he, rfl⟩, ?_⟩
    rw [if_pos (of_decide_eq_true h1)]
    exact h1
  · unfold dFind
    rw [Option.isSome_map, List.find?_isSome]
    exact ⟨(kd, vd), List.mem_append_right _ List.mem_cons_self, decide_eq_true rfl⟩
theorem good_put {T : Tw} {n : Nat} (h : Good k kv) : Good k (dPut kv (keyD T n) (vlD (k.V n T))) := by
  unfold dPut
  split
  · intro e he
    obtain ⟨e', he', rfl⟩ := List.mem_map.mp he
    obtain ⟨S, i, e1, e2⟩ := h e' he'
    split
    · rename_i hz
      rw [e1] at hz
      obtain ⟨rfl, rfl⟩ := key_nk.mp hz
      exact ⟨S, i, e1, rfl⟩
    · exact ⟨S, i, e1, e2⟩
  · intro e he
    rcases List.mem_append.mp he with he | he
    · exact h e he
    · rw [List.mem_singleton.mp he]
      exact ⟨T, n, rfl, rfl⟩
theorem si_memP {T : Tw} {n : Nat} {tv tm : TE} {Rr : Hp → L2.V → D → Prop} {O : OutI (List (D × D)) → Prop} (hv : EG (B.op k.p) tv Γ (vlD (k.V n T))) (hm : EJ (B.op k.p) (MJ B C k) tm Γ kv (.raw (.ref k.p))) (hk : EG (B.op k.p) tk' Γ (keyD T n)) (hl : kv.length < 100000)
    (o : O (.nx Γ (dPut kv (keyD T n) (vlD (k.V n T))))) : SI (B.op k.p) k.p Rr (MJ B C k) (tAsg tv (gSub tm tk' (rSetN B))) Γ kv O := fun σ H E r j nn qq b c => by
  refine hv σ H r _ fun v H1 e1 rv => hm σ H1 (r.ext e1) (mj_stb _ _ _ e1 j) _ fun y H2 e2 ry => hk σ H2 ((r.ext e1).ext e2) _ fun x H3 e3 rx => ?_
  obtain rfl := ry.raw_inv
  obtain ⟨a, xs, rfl, hx, rxs⟩ := rx.tup_inv
  obtain ⟨⟨i1, i2, i3, i4⟩, ls, ⟨ob, es, hd, re⟩, hg⟩ := mj_stb _ _ _ (e1.trans (e2.trans e3)) j
  refine ⟨a, k.p, ob, es, nk (keyD T n), rfl, rfl, hd, re_kh (B := B.op k.p) re, ⟨(B.op k.p).pp, _, key_kb T n, key_depth T n, rfl, rx⟩, by rw [re_len re]; exact hl, fun o' => ?_⟩
  have s1 : Sp k.p H3 (upd H3 k.p (nd B.P B.w k.p o' (ePut es (nk (keyD T n)) a v))) := Sp.upd hd fun _ _ z => nomatch z
  refine nn σ _ Γ _ ((Sp.of (e1.trans (e2.trans e3))).trans s1) ⟨⟨?_, i2.sm (s1.sm op_pp), i3.sm (s1.sm op_pp), i4.sm (s1.sm op_pp)⟩, ls, ⟨o', _, upd_same, (re_put re (key_kb T n) (key_depth T n) rx (rv.ext (e2.trans e3))).sm (s1.sm op_pp)⟩, good_put hg⟩ ((r.ext (e1.trans (e2.trans e3))).sm (s1.sm op_pp)) o
  rw [upd_ne ls.ne]
  exact i1
end
end
/-! what its methods promise -/
def DSp (P : Program) (w : World) (K : PySem.W.Frag) (C : Addr) : L2.Sp := fun vs H Q _ => ∃ (pp : Addr → Prop) (k : Lkr) (vT : L2.V) (T : Tw) (kv : List (D × D)), vs = [.ref k.a, vT] ∧ Pp ((⟨P, w, K, pp⟩ : Bs).op k.p) H ∧ MJ ⟨P, w, K, pp⟩ C k kv H ∧ R ((⟨P, w, K, pp⟩ : Bs).op k.p) H vT (tw T) ∧ TwOk T ∧
  ∀ v H', Same H H' → R ((⟨P, w, K, pp⟩ : Bs).op k.p) H' v (.lst ((dds k.own T).map dD)) → Q v H'
def cb (r : Nat) : Nat → Nat
  | 0 => 1
  | n + 1 => 1 + 3 * r * cb r n
def MSp (P : Program) (w : World) (K : PySem.W.Frag) (C : Addr) (L : Nat) : L2.Sp := fun vs H Q _ => ∃ (pp : Addr → Prop) (k : Lkr) (vT : L2.V) (T : Tw) (n N : Nat) (kv : List (D × D)), vs = [.ref k.a, vT, .int (n : Nat)] ∧ Pp ((⟨P, w, K, pp⟩ : Bs).op k.p) H ∧ MJ ⟨P, w, K, pp⟩ C k kv H ∧ R ((⟨P, w, K, pp⟩ : Bs).op k.p) H vT (tw T) ∧ n < L ∧ VOk N n T k.own k.m k.q k.mm ∧ kv.length + cb k.own.length n ≤ 99000 ∧
  ∀ v H' kv', Sp k.p H H' → MJ ⟨P, w, K, pp⟩ C k kv' H' → R ((⟨P, w, K, pp⟩ : Bs).op k.p) H' v (vlD (k.V n T)) → kv'.length ≤ kv.length + cb k.own.length n → Q v H'
end Tl
end
section
set_option Elab.async false
set_option linter.all false
set_option maxRecDepth 100000
set_option maxHeartbeats 2000000
set_option autoImplicit false
set_option exponentiation.threshold 10000

/-! The looker: its deeds, its values. -/
namespace Tl
open PySem PySem.Spec PyProof.Rows L2
local macro_rules | `(tactic| walk_at "ev") => `(tactic| first
  | ((with_reducible refine' eg_var ?k1); (case k1 => exact rfl))
  | with_reducible exact eg_int
  | with_reducible exact eg_str
  | with_reducible exact eg_bl
  | with_reducible exact eg_non
  | ((with_reducible refine' eg_sub ?k1 ?k2); (case k1 => walk_at "ev"); (case k2 => walk_at "ev"))
  | ((with_reducible refine' eg_add ?k1 ?k2); (case k1 => walk_at "ev"); (case k2 => walk_at "ev"))
  | ((with_reducible refine' eg_lt ?k1 ?k2); (case k1 => walk_at "ev"); (case k2 => walk_at "ev"))
  | ((with_reducible refine' eg_le ?k1 ?k2); (case k1 => walk_at "ev"); (case k2 => walk_at "ev"))
  | ((with_reducible refine' eg_gt ?k1 ?k2); (case k1 => walk_at "ev"); (case k2 => walk_at "ev"))
  | ((with_reducible refine' eg_ge ?k1 ?k2); (case k1 => walk_at "ev"); (case k2 => walk_at "ev"))
  | ((with_reducible refine' eg_neg ?k1); (case k1 => walk_at "ev"))
  | ((with_reducible refine' eg_ixT ?k1 ?k2 ?k3); (case k1 => walk_at "ev"); (case k2 => walk_at "ev"); (case k3 => exact rfl))
  | ((with_reducible refine' eg_ixL ?k1 ?k2 ?k3); (case k1 => walk_at "ev"); (case k2 => walk_at "ev"); (case k3 => exact rfl))
  | ((with_reducible refine' eg_tup ?k1 ?k2); (case k1 => walk_at "av"); (case k2 => exact le1000 rfl))
  | ((with_reducible refine' eg_lst ?k1 ?k2); (case k1 => walk_at "av"); (case k2 => exact le1000 rfl))
  | ((with_reducible refine' eg_isN ?k1 ?k2); (case k1 => walk_at "ev"); (case k2 => exact rfl))
  | ((with_reducible refine' eg_notN ?k1 ?k2); (case k1 => walk_at "ev"); (case k2 => exact rfl))
  | ((with_reducible refine' eg_eqI ?k1 ?k2); (case k1 => walk_at "ev"); (case k2 => walk_at "ev"))
  | ((with_reducible refine' eg_eqStr ?k1 ?k2); (case k1 => walk_at "ev"); (case k2 => walk_at "ev"))
  | assumption)
local macro_rules | `(tactic| walk_at "av") => `(tactic| first
  | with_reducible exact ag_nil
  | ((with_reducible refine' ag_cons ?k1 ?k2); (case k1 => walk_at "ev"); (case k2 => walk_at "av")))
local macro_rules | `(tactic| walk_at "tv") => `(tactic| first
  | ((with_reducible refine' tg_test ?k1); (case k1 => walk_at "ev"))
  | ((with_reducible refine' tg_B ?k1); (case k1 => walk_at "ev"))
  | ((with_reducible refine' tg_not ?k1); (case k1 => walk_at "tv")))
local macro_rules | `(tactic| walk_at "nm") => `(tactic| first | dsimp only [cxOf] | skip)

section
variable {B : Bs} {mg : Str → Option Value} {base : Heap}
theorem ok_deeds (T : Txt B.K mg) : FnOk B.P B.w B.K mg base CX0 1 T.Looker_deeds_in.f T.Looker_deeds_in.d p_Looker_deeds_in (DSp B.P B.w B.K T.C) := by
  refine T.Looker_deeds_in.F.ok sc_Looker_deeds_in (fun vs H Q E h => by obtain ⟨_, k, vT, _, _, rfl, _⟩ := h; rfl) fun cdv A outer s H vs Q E hr hs => ⟨_, (pss_cons (ps_set (i := 2) sc_Looker_deeds_in.nd rfl (Or.inr rfl) (pe_callTy (k_dictT (K := B.K) rfl rfl) (by rfl) T.m_dict (by decide +kernel) (pa_cons (pv 1) pa_nil))) (pss_cons (ps_setLc (i := 3) (own := [("key", 4)]) rfl sc_Looker_deeds_in.nd rfl rfl (sw_true rfl rfl rfl (by decide +kernel)) (k_tup (K := B.K) rfl (k_fld (K := B.K) rfl (pv 0) rfl)) (blkOk_by (own := [("key", 4)]) (N := n_Looker_deeds_in) (sc := defScope s_Looker_deeds_in) (by decide +kernel)) (fun _ _ _ _ _ => (pg_name (i := 4) sc_Looker_deeds_in.nd rfl (Or.inl rfl))) (fun _ _ _ _ _ => (pts_one (pt_cmpR (k_ni (K := B.K) rfl (hu_of hr)) (pv 4) (pv 2) (by rfl)))) (fun _ _ _ _ _ => (pe_tupF (pa_cons pe_str (pa_cons (pv 4) pa_nil))))) (pss_one (ps_ret (pe_op (k_add (K := B.K) rfl) (pv 3) (pe_lc (own := [("key", 4)]) rfl sc_Looker_deeds_in.nd (k_tup (K := B.K) rfl (k_fld (K := B.K) rfl (pv 0) rfl)) (blkOk_by (own := [("key", 4)]) (N := n_Looker_deeds_in) (sc := defScope s_Looker_deeds_in) (by decide +kernel)) (fun _ _ _ _ _ => (pg_name (i := 4) sc_Looker_deeds_in.nd rfl (Or.inl rfl))) (fun _ _ _ _ _ => (pts_one (pt_cmpR (k_in (K := B.K) rfl (hu_of hr)) (pv 4) (pv 2) (by rfl)))) (fun _ _ _ _ _ => (pe_tupF (pa_cons pe_str (pa_cons (pv 4) pa_nil)))))))))), ?_⟩
  obtain ⟨pp, k, vT, Tv, kv, rfl, pq, j, rT, hT, q⟩ := hs
  have ho := j.2.1.ho
  have r0 : Rep ((B.at pp).op k.p) H (L2.start n_Looker_deeds_in [.ref k.a, vT]) [some (.raw (.ref k.a)), some (tw Tv), none, none, none] := rep_start (ds := [.raw (.ref k.a), tw Tv]) pq (.cons (.raw _) (.cons rT .nil))
  refine (?_ : SJ ((B.at pp).op k.p) (MJ (B.at pp) T.C k) _ _ kv (.lst ((dds k.own Tv).map dD))) _ H _ r0 j q
  refine sj_asg mj_stb (ej_of (eg_bi (ag_cons (by walk_at "ev") ag_nil) (cg_dictT (srt1_nodup hT.1)))) ?_
  refine sj_asg mj_stb (ej_lc (xs := k.own) (ee := D.int) (js := [4]) (fun x => decide (x ∉ Tv.map (·.1))) (fun x => dD (true, x)) (wj_tup (ej_fld T.cl_Looker T.n_own rfl fun H j => ⟨_, j.2.1.f1, j.1.2.1⟩)) (by decide) (by omega) fun x hx => ⟨_, gg_name, tg_is (tg_test (eg_niK (ks := Tv.map (·.1)) (k := x) (by walk_at "ev") (by walk_at "ev"))) (by rw [decide_not]), fun _ => ⟨eg_is (eg_tup (ag_cons eg_str (ag_cons (eg_var rfl) ag_nil)) (le1000 rfl)) rfl, rfl⟩⟩) ?_
  refine sj_ret (ej_is (ej_op mj_stb (ej_of (by walk_at "ev")) (ej_lc (xs := k.own) (ee := D.int) (js := [4]) (fun x => decide (x ∈ Tv.map (·.1))) (fun x => dD (false, x)) (wj_tup (ej_fld T.cl_Looker T.n_own rfl fun H j => ⟨_, j.2.1.f1, j.1.2.1⟩)) (by decide) (by omega) fun x hx => ⟨_, gg_name, tg_test (eg_inK (ks := Tv.map (·.1)) (k := x) (by walk_at "ev") (by walk_at "ev")), fun _ => ⟨eg_is (eg_tup (ag_cons eg_str (ag_cons (eg_var rfl) ag_nil)) (le1000 rfl)) rfl, rfl⟩⟩) (og_or2 (og_or1 (og_cat ?_)))) ?_)
  · have h1 := List.length_filter_le (fun x => decide (x ∉ Tv.map (·.1))) k.own
    have h2 := List.length_filter_le (fun x => decide (x ∈ Tv.map (·.1))) k.own
    rw [List.length_map, List.length_map, sizeLine_eq]
    omega
  · show D.lst _ = D.lst _
    unfold dds
    rw [List.map_append, List.map_map, List.map_map]
    rfl
section
variable {C : Addr} {k : Lkr} {Γ : Gm} {kv : List (D × D)}
theorem ej_deeds {T : Tw} {tk' : TE} {E : XK} (h0 : Γ[0]? = some (some (.raw (.ref k.a)))) (h1 : EG (B.op k.p) tk' Γ (tw T)) (hT : TwOk T) : EJ (B.op k.p) (MJ B C k) (tMeth C ("deeds_in" : Str) (DSp B.P B.w B.K C) [] E (tVar 0) (tCons tk' tNil)) Γ kv (.lst ((dds k.own T).map dD)) := fun σ H r j Q q => by
  obtain ⟨w, hw, rw'⟩ := r.at_ 0 _ h0
  obtain rfl := rw'.raw_inv
  refine ⟨_, hw, k.a, k.dx, k.fs, rfl, j.1.1, j.2.1.n1, (ag_cons h1 ag_nil) σ H r _ fun vs H1 e1 r1 => ?_⟩
  obtain ⟨v, rfl, rv⟩ := r1.one
  exact ⟨B.pp, k, v, T, kv, rfl, (r.ext e1).pp, mj_stb _ _ _ e1 j, rv, hT, fun v H' e2 rv => q v H' (e1.trans e2) rv⟩
theorem ei_best {T : Tw} {n N L : Nat} {t : TA} {E : XK} {O : D → List (D × D) → Prop} (h0 : Γ[0]? = some (some (.raw (.ref k.a)))) (h1 : AG (B.op k.p) t Γ [tw T, .int (n : Nat)]) (hn : n < L) (hv : VOk N n T k.own k.m k.q k.mm) (hl : kv.length + cb k.own.length n ≤ 99000)
    (o : ∀ kv', kv'.length ≤ kv.length + cb k.own.length n → O (vlD (k.V n T)) kv') : EI (B.op k.p) k.p (MJ B C k) (tMeth C ("best" : Str) (MSp B.P B.w B.K C L) [] E (tVar 0) t) Γ kv O := fun σ H r j Q q => by
  obtain ⟨w, hw, rw'⟩ := r.at_ 0 _ h0
  obtain rfl := rw'.raw_inv
  refine ⟨_, hw, k.a, k.dx, k.fs, rfl, j.1.1, j.2.1.n2, h1 σ H r _ fun vs H1 e1 r1 => ?_⟩
  obtain ⟨v, u, rfl, rv, ru⟩ := r1.two
  obtain rfl := ru.int_inv
  exact ⟨B.pp, k, v, T, n, N, kv, rfl, (r.ext e1).pp, mj_stb _ _ _ e1 j, rv, hn, hv, hl, fun v H' kv' s j' rv hl' => q v H' _ kv' ((Sp.of e1).trans s) j' rv (o kv' hl')⟩
end
def rtM (d : D) (M : Nat) : OutI (List (D × D)) → Prop
  | .nx _ _ => False
  | .rt d' kv => d' = d ∧ kv.length ≤ M
  | .bk _ _ => False
  | .ct _ _ => False
theorem filter_both (f : Int → Bool) : ∀ xs : List Int, (xs.filter fun x => !f x).length + (xs.filter f).length = xs.length
  | [] => rfl
  | x :: xs => by
    have h := filter_both f xs
    rw [List.filter_cons, List.filter_cons, List.length_cons]
    cases f x
    · simp only [Bool.not_false, if_true, Bool.false_eq_true, if_false, List.length_cons]; omega
    · simp only [Bool.not_true, if_true, Bool.false_eq_true, if_false, List.length_cons]; omega
theorem dds_len1 (own : List Int) (T : Tw) : (dds own T).length = own.length := by
  unfold dds
  rw [List.length_append, List.length_map, List.length_map]
  have h := filter_both (fun k => decide (k ∈ T.map (·.1))) own
  have e : (fun k => decide (k ∉ T.map (·.1))) = fun k => !decide (k ∈ T.map (·.1)) := by
    funext k
    rw [decide_not]
  rw [e]
  exact h
theorem cb_pos (r : Nat) : ∀ n, 1 ≤ cb r n
  | 0 => Nat.le_refl 1
  | n + 1 => by unfold cb; omega
theorem ok_best (T : Txt B.K mg) : ∀ L : Nat, FnOk B.P B.w B.K mg base CX0 (8 + L) T.Looker_best.f T.Looker_best.d p_Looker_best (MSp B.P B.w B.K T.C L)
  | 0 => T.Looker_best.F.ok (k := 7) sc_Looker_best (fun vs H Q E h => by obtain ⟨_, _, _, _, _, _, _, rfl, _⟩ := h; rfl) fun cdv A outer s H vs Q E hr hs => by
    obtain ⟨_, _, _, _, _, _, _, _, _, _, _, h, _⟩ := hs
    omega
  | L + 1 => by
    have G_Looker_best := ok_best T L
    have G_Looker_deeds_in := ok_deeds (base := base) T
    have G_cost_in := ok_cost_in (base := base) T
    have G_after := ok_after (base := base) T
    have G_total := ok_total (base := base) T
    have G_times := ok_times (base := base) T
    have G_is_less := ok_is_less (base := base) T
    refine T.Looker_best.F.ok (k := 8 + L) sc_Looker_best (fun vs H Q E h => by obtain ⟨_, _, _, _, _, _, _, rfl, _⟩ := h; rfl) fun cdv A outer s H vs Q E hr hs => ⟨_, (pss_cons (ps_if (pt_cmpR (op_ndni (B := B) rfl rfl rfl hr.units) (pe_tupF (pa_cons (pv 1) (pa_cons (pv 2) pa_nil))) (k_fld (K := B.K) rfl (pv 0) rfl) (by rfl)) (pss_cons (ps_par (i := 3) (j := 4) rfl sc_Looker_best.nd rfl rfl (by decide) rfl rfl (pa_cons (pe_tupF (pa_cons (pe_ix (k_ix (K := B.K) rfl) (pe_call G_cost_in (hr.mono (by omega)) (by rfl) T.cost_in.g T.cost_in.F.kp T.cost_in.b .nil pass0 (pa_cons (pv 1) (pa_cons (k_fld (K := B.K) rfl (pv 0) rfl) (pa_cons (k_fld (K := B.K) rfl (pv 0) rfl) pa_nil)))) pe_int (fun _ _ => rfl)) (pa_cons pe_int pa_nil))) (pa_cons pe_non pa_nil)) (by rfl)) (pss_cons (ps_for PassesOwn.never rfl (k_lt (K := B.K) rfl (pe_ifExp (pt_cmpR op_gt (pv 2) pe_int (nomark _)) (pe_meth (pv 0) T.cl_Looker T.Looker_deeds_in.m G_Looker_deeds_in (hr.mono (by omega)) T.Looker_deeds_in.b .nil pass0 (pa_cons (pv 1) pa_nil)) (pe_tupF pa_nil))) (pg_name (i := 5) sc_Looker_best.nd rfl (Or.inl rfl)) (pss_cons (ps_set (i := 6) sc_Looker_best.nd rfl (Or.inl rfl) (pe_call G_after (hr.mono (by omega)) (by rfl) T.after.g T.after.F.kp T.after.b .nil pass0 (pa_cons (pv 1) (pa_cons (pv 5) (pa_cons (k_fld (K := B.K) rfl (pv 0) rfl) (pa_cons (k_fld (K := B.K) rfl (pv 0) rfl) pa_nil)))))) (pss_cons (ps_set (i := 7) sc_Looker_best.nd rfl (Or.inl rfl) (pe_call G_total (hr.mono (by omega)) (by rfl) T.total.g T.total.F.kp T.total.b .nil pass0 (pa_cons (pe_lc (own := [("later", 8), ("share", 9)]) rfl sc_Looker_best.nd (k_list (K := B.K) rfl (pv 6)) (blkOk_by (own := [("later", 8), ("share", 9)]) (N := n_Looker_best) (sc := defScope s_Looker_best) (by decide +kernel)) (fun _ _ _ _ _ => (k_pg (K := B.K) (n := 2) rfl rfl (pgs_cons (pg_name (i := 8) sc_Looker_best.nd rfl (Or.inl rfl)) (pgs_cons (pg_name (i := 9) sc_Looker_best.nd rfl (Or.inl rfl)) pgs_nil)))) (fun _ _ _ _ _ => pts_nil) (fun _ _ _ _ _ => (pe_call G_times (hr.mono (by omega)) (by rfl) T.times.g T.times.F.kp T.times.b .nil pass0 (pa_cons (pv 9) (pa_cons (pe_ix (k_ix (K := B.K) rfl) (pe_meth (pv 0) T.cl_Looker T.Looker_best.m G_Looker_best (hr.mono (by omega)) T.Looker_best.b .nil pass0 (pa_cons (pv 8) (pa_cons (pe_op op_sub (pv 2) pe_int) pa_nil))) pe_int (fun _ _ => rfl)) pa_nil))))) pa_nil))) (pss_one (ps_if (pt_val (pe_call G_is_less (hr.mono (by omega)) (by rfl) T.is_less.g T.is_less.F.kp T.is_less.b .nil pass0 (pa_cons (pv 3) (pa_cons (pv 7) pa_nil)))) (pss_one (ps_par (i := 3) (j := 4) rfl sc_Looker_best.nd rfl rfl (by decide) rfl rfl (pa_cons (pv 7) (pa_cons (pv 5) pa_nil)) (by rfl))) pss_nil))))) (pss_one (ps_asg (pe_tupF (pa_cons (pv 3) (pa_cons (pv 4) pa_nil))) (pg_sub (k_fld (K := B.K) rfl (pv 0) rfl) (pe_tupF (pa_cons (pv 1) (pa_cons (pv 2) pa_nil))) (set_nd (B := B) rfl rfl rfl hr.units)))))) pss_nil) (pss_one (ps_ret (pe_ix (ix_nd (B := B) rfl rfl rfl hr.units) (k_fld (K := B.K) rfl (pv 0) rfl) (pe_tupF (pa_cons (pv 1) (pa_cons (pv 2) pa_nil))) (fun _ _ => rfl))))), ?_⟩
    obtain ⟨pp, k, vT, Tv, n, N, kv, rfl, pq, j, rT, hnL, hv, hl, q⟩ := hs
    obtain ⟨w, hn1, hn2, ho, hm, hc, m1, m3⟩ := id hv
    obtain ⟨t1, t2⟩ := wk_ok w (by omega)
    have r0 : Rep ((B.at pp).op k.p) H (L2.start n_Looker_best [.ref k.a, vT, .int (n : Nat)]) [some (.raw (.ref k.a)), some (tw Tv), some (.int (n : Nat)), none, none, none, none, none, none, none] := rep_start (ds := [.raw (.ref k.a), tw Tv, .int (n : Nat)]) pq (.cons (.raw _) (.cons rT (.cons (.int _) .nil)))
    refine (?_ : SI ((B.at pp).op k.p) k.p (R ((B.at pp).op k.p)) (MJ (B.at pp) T.C k) _ _ kv (rtM (vlD (k.V n Tv)) (kv.length + cb k.own.length n))) _ H _ r0 j (fun _ _ _ _ _ _ _ o => o.elim) (fun v H' d kv' s j' r' o => by obtain ⟨rfl, o2⟩ := o; exact q v H' kv' s j' r' o2) (fun _ _ _ _ _ _ _ o => o.elim) (fun _ _ _ _ _ _ _ o => o.elim)
    have hR : ∀ (H : Hp) (v : L2.V) (d : D), R ((B.at pp).op k.p) H v d → R ((B.at pp).op k.p) H v d := fun _ _ _ r => r
    refine si_seq (si_ifJ mj_stb (tj_test (ej_memN (T := Tv) (n := n) (ej_fld T.cl_Looker T.n_memo rfl fun H j => ⟨_, j.2.1.f6, .raw _⟩) (by walk_at "ev"))) (fun hf => ?_) (fun hf => ?_))
    · refine si_seq (si_parJ (d := fr ((cN k.g k.m Tv : Nat) : Rat)) (e := .non) mj_stb op_pp (aj_cons mj_stb (ej_is (ej_tup (aj_cons mj_stb (ej_ixT (ds := [_, _, .int (cN k.g k.m Tv : Nat)]) mj_stb (ej_call (aj_cons mj_stb (ej_of (by walk_at "ev")) (aj_cons mj_stb (ej_fld T.cl_Looker T.n_goal rfl fun H j => ⟨_, j.2.1.f2, .int _⟩) (aj_cons mj_stb (ej_fld T.cl_Looker T.n_manner rfl fun H j => ⟨_, j.2.1.f3, .str _⟩) aj_nil))) ⟨Tv, k.g, k.m, rfl, t1, by omega, rfl⟩) (ej_of eg_int) rfl) (aj_cons mj_stb (ej_of eg_int) aj_nil)) (le1000 rfl)) (fr_nat _).symm) (aj_of (ag_cons eg_non ag_nil))) ?_)
      have hw : WJ ((B.at pp).op k.p) (MJ (B.at pp) T.C k) (iLT B.K (tIf (tTest (tOp (rI0 fun i j => .bl (decide (j < i))) (tVar 2) (tC (.int 0)))) (tMeth T.C ("deeds_in" : Str) (DSp B.P B.w B.K T.C) [] E0 (tVar 0) (tCons (tVar 1) tNil)) (tTupF tNil))) ((([some (.raw (.ref k.a)), some (tw Tv), some (.int (n : Nat)), none, none, none, none, none, none, none] : Gm).set 3 (some (fr ((cN k.g k.m Tv : Nat) : Rat)))).set 4 (some .non)) kv ((LL k.own Tv n).map dD) := by
        by_cases hz : n = 0
        · subst hz
          exact wj_ltT (ds := []) (ej_if mj_stb (b := false) (tj_of (tg_is (tg_test (eg_gt (by walk_at "ev") eg_int)) (by rfl))) (fun h => absurd h Bool.false_ne_true) fun _ => ej_of (eg_tup ag_nil (le1000 rfl)))
        · unfold LL
          rw [if_neg hz]
          exact wj_ltL (ej_if mj_stb (b := true) (tj_of (tg_is (tg_test (eg_gt (by walk_at "ev") eg_int)) (decide_eq_true (by omega)))) (fun _ => ej_deeds (B := B.at pp) rfl (by walk_at "ev") t1) fun h => absurd h.symm Bool.false_ne_true)
      refine si_seq (si_forJ mj_stb op_pp hw (fun i Γ kv' => (∃ x5 x6 x7 : Option D, Γ = [some (.raw (.ref k.a)), some (tw Tv), some (.int (n : Nat)), some (fr (pk (ff k.g k.m k.own k.q k.c k.mm n Tv) ((LL k.own Tv n).take i) (((cN k.g k.m Tv : Nat) : Rat), none)).1), some (odD (pk (ff k.g k.m k.own k.q k.c k.mm n Tv) ((LL k.own Tv n).take i) (((cN k.g k.m Tv : Nat) : Rat), none)).2), x5, x6, x7, none, none]) ∧ kv'.length ≤ kv.length + i * (3 * cb k.own.length (n - 1))) ⟨⟨none, none, none, rfl⟩, by omega⟩ ?_ ?_)
      · rintro i d Γ kv1 hd ⟨⟨x5, x6, x7, rfl⟩, hkl⟩
        obtain ⟨dd, hi, rfl⟩ := map_get hd
        have hn0 : n ≠ 0 := by
          intro z
          unfold LL at hi
          rw [if_pos z] at hi
          cases hi
        obtain ⟨n, rfl⟩ : ∃ q, n = q + 1 := ⟨n - 1, by omega⟩
        have hil : i < k.own.length := by
          have := (List.getElem?_eq_some_iff.mp hi).1
          unfold LL at this
          rw [if_neg hn0, dds_len1] at this
          exact this
        have hcb : cb k.own.length (n + 1) = 1 + 3 * k.own.length * cb k.own.length n := rfl
        have hcb2 : (i + 1) * (3 * cb k.own.length n) ≤ 3 * k.own.length * cb k.own.length n := by
          refine Nat.le_trans (Nat.mul_le_mul_right _ (show i + 1 ≤ k.own.length from hil)) ?_
          rw [Nat.mul_comm 3 k.own.length, Nat.mul_assoc]
          exact Nat.le_refl _
        have hkl : kv1.length ≤ kv.length + i * (3 * cb k.own.length n) := hkl
        rw [Nat.succ_mul] at hcb2
        have e1 : (LL k.own Tv (n + 1)).take (i + 1) = (LL k.own Tv (n + 1)).take i ++ [dd] := by rw [List.take_add_one, hi]; rfl
        rw [e1, pk_snoc]
        have hps := pk_s (g := k.g) (c := k.c) hv ((LL k.own Tv (n + 1)).take i)
        generalize pk (ff k.g k.m k.own k.q k.c k.mm (n + 1) Tv) ((LL k.own Tv (n + 1)).take i) (((cN k.g k.m Tv : Nat) : Rat), none) = a at hps ⊢
        have a3 := aft_len3 (c := k.c) hc.le.1 hc.le.2 m1 m3 w dd
        refine ⟨_, _, gg_name, ?_⟩
        refine si_seq (si_asgJ mj_stb op_pp (d := .lst ((aft Tv dd k.q k.c k.mm).map stD)) (ej_call (aj_cons mj_stb (ej_of (by walk_at "ev")) (aj_cons mj_stb (ej_of (d := dD dd) (eg_var rfl)) (aj_cons mj_stb (ej_fld T.cl_Looker T.n_chance rfl fun H j => ⟨_, j.2.1.f4, j.1.2.2.1⟩) (aj_cons mj_stb (ej_fld T.cl_Looker T.n_rule rfl fun H j => ⟨_, j.2.1.f5, j.1.2.2.2⟩) aj_nil)))) ⟨Tv, dd, k.l1, k.l2, k.c, k.q.num, k.q.den, k.mm, rfl, t1, hc.ok, m1, m3, by rw [ch_self]⟩) ?_)
        have hts : ∀ y ∈ (aft Tv dd k.q k.c k.mm).map fun (x : Tw × Rat) => x.2 * (k.V n x.1).1, Sz k.q.den (1 * (3 ^ 9 * 16)) (2 + 18) y := by
          intro y hy
          obtain ⟨x, hx, rfl⟩ := List.mem_map.mp hy
          exact term_s hv hx
        refine si_seq (si_asg op_pp (ei_call mj_stb op_pp (ai_cons op_pp (ei_lc (xs := aft Tv dd k.q k.c k.mm) (ee := stD) (js := [8] ++ ([9] ++ [])) (fun x => fr (x.2 * (k.V n x.1).1)) mj_stb mj_mv op_pp (wg_list (by walk_at "ev")) (by decide) (by omega) (fun jj kv' => kv'.length ≤ kv1.length + jj * cb k.own.length n) (by omega) (fun x hx => rfl) (fun jj x kv2 hj hk2 => ?_) (fun kv2 hk2 => ai_nil ?_)))))
        · have hjl : jj < 3 := Nat.lt_of_lt_of_le (List.getElem?_eq_some_iff.mp hj).1 a3
          have hx := List.mem_of_getElem? hj
          obtain ⟨v1, v2⟩ := hv.next hx
          have hmul : (jj + 1) * cb k.own.length n ≤ 3 * cb k.own.length n := Nat.mul_le_mul_right _ hjl
          rw [Nat.succ_mul] at hmul
          refine ⟨_, gg_2, ?_⟩
          have en : ((n + 1 : Nat) : Int) - 1 = (n : Nat) := by omega
          refine ei_call mj_stb op_pp (ai_cons op_pp (ei_mono (ei_of mj_stb (d := fr x.2) (eg_var rfl)) ?_))
          rintro _ _ ⟨rfl, rfl⟩
          refine ai_cons op_pp (ei_op mj_stb op_pp (ei_best (B := B.at pp) (T := x.1) (n := n) (N := N + 1) rfl (ag_cons (by walk_at "ev") (ag_cons (eg_is (eg_sub (by walk_at "ev") eg_int) (congrArg D.int en)) ag_nil)) (by omega) v1 (by omega) fun kv3 hk3 => ei_mono (ei_of mj_stb (d := .int 0) eg_int) ?_))
          rintro _ _ ⟨rfl, rfl⟩
          refine ⟨fr (k.V n x.1).1, og_ixT rfl, ai_nil ⟨fr (x.2 * (k.V n x.1).1), ⟨x.2, (k.V n x.1).1, rfl, sz_sm v2 k.q.den_pos hc.2.2 (by omega) (by decide), sz_sm (vl_s v1) k.q.den_pos hc.2.2 (by omega) (by decide), rfl⟩, rfl, ?_⟩⟩
          rw [Nat.succ_mul]
          omega
        refine ⟨fr (ff k.g k.m k.own k.q k.c k.mm (n + 1) Tv dd), ⟨(aft Tv dd k.q k.c k.mm).map fun (x : Tw × Rat) => x.2 * (k.V n x.1).1, ?_, ⟨by rw [List.length_map]; omega, k.q.den ^ (2 + 18), Nat.pow_pos k.q.den_pos, ?_, fun y hy => ⟨(hts y hy).2.2, (sz_sm (hts y hy) k.q.den_pos hc.2.2 (by omega) (by decide)).1⟩⟩, rfl⟩, ?_⟩
        · rw [List.map_map]
          rfl
        · exact Nat.lt_of_le_of_lt (Nat.pow_le_pow_left hc.2.2 _) (by decide +kernel)
        dsimp only [thenI]
        have hk3 : kv2.length ≤ kv.length + (i + 1) * (3 * cb k.own.length n) := by
          have := Nat.mul_le_mul_right (cb k.own.length n) a3
          rw [Nat.succ_mul]
          omega
        refine si_if mj_stb (tg_B (eg_call (by walk_at "av") ⟨a.1, ff k.g k.m k.own k.q k.c k.mm (n + 1) Tv dd, rfl, sz_sm hps k.q.den_pos hc.2.2 (by omega) (by decide), sz_sm (ff_s hv dd) k.q.den_pos hc.2.2 (by omega) (by decide), rfl⟩)) (fun hb => ?_) fun hb => si_sg mj_stb hR (sg_next ?_)
        · rw [if_pos (of_decide_eq_true hb)]
          refine si_sg mj_stb hR (sg_par (d := fr (ff k.g k.m k.own k.q k.c k.mm (n + 1) Tv dd)) (e := dD dd) (ag_cons (by walk_at "ev") (ag_cons (eg_var rfl) ag_nil)) ?_)
          exact ⟨⟨_, _, _, rfl⟩, hk3⟩
        · rw [if_neg (of_decide_eq_false hb)]
          exact ⟨⟨_, _, _, rfl⟩, hk3⟩
      · rintro Γ kv1 ⟨⟨x5, x6, x7, rfl⟩, hkl⟩
        rw [List.length_map] at hkl
        rw [List.length_map, List.take_length]
        dsimp only [thenI]
        have hlen : kv1.length + 1 ≤ kv.length + cb k.own.length n := by
          cases n with
          | zero =>
            have e : (LL k.own Tv 0).length = 0 := rfl
            rw [e] at hkl
            have e2 : cb k.own.length 0 = 1 := rfl
            omega
          | succ n =>
            have e : (LL k.own Tv (n + 1)).length = k.own.length := by
              unfold LL
              rw [if_neg (by omega), dds_len1]
            rw [e] at hkl
            have hcb : cb k.own.length (n + 1) = 1 + 3 * k.own.length * cb k.own.length n := rfl
            have hkl : kv1.length ≤ kv.length + k.own.length * (3 * cb k.own.length n) := hkl
            have e3 : k.own.length * (3 * cb k.own.length n) = 3 * k.own.length * cb k.own.length n := by rw [Nat.mul_comm 3 k.own.length, Nat.mul_assoc]
            omega
        refine si_memP (B := B.at pp) (T := Tv) (n := n) (eg_is (eg_tup (by walk_at "av") (le1000 rfl)) ?_) (ej_fld T.cl_Looker T.n_memo rfl fun H j => ⟨_, j.2.1.f6, .raw _⟩) (by walk_at "ev") (by omega) ?_
        · unfold Lkr.V vlD
          rw [vl_LL]
        dsimp only [thenI]
        refine si_retJ mj_stb hR (ej_memG (B := B.at pp) (T := Tv) (n := n) (ej_fld T.cl_Looker T.n_memo rfl fun H j => ⟨_, j.2.1.f6, .raw _⟩) (by walk_at "ev") dPut_some) ⟨rfl, ?_⟩
        exact Nat.le_trans dPut_len hlen
    · have hf2 : (dFind kv (nk (keyD Tv n))).isSome = true := by simpa using hf
      refine si_sg mj_stb hR (sg_next ?_)
      dsimp only [liftO, thenI]
      exact si_retJ mj_stb hR (ej_memG (B := B.at pp) (T := Tv) (n := n) (ej_fld T.cl_Looker T.n_memo rfl fun H j => ⟨_, j.2.1.f6, .raw _⟩) (by walk_at "ev") hf2) ⟨rfl, Nat.le_add_right _ _⟩
end
end Tl
end
section
set_option Elab.async false
set_option linter.all false
set_option maxRecDepth 100000
set_option maxHeartbeats 2000000
set_option autoImplicit false
set_option exponentiation.threshold 10000

/-! The looker made and asked. -/
namespace Tl
open PySem PySem.Spec PyProof.Rows L2
local macro_rules | `(tactic| walk_at "ev") => `(tactic| first
  | ((with_reducible refine' eg_var ?k1); (case k1 => exact rfl))
  | with_reducible exact eg_int
  | with_reducible exact eg_str
  | with_reducible exact eg_bl
  | with_reducible exact eg_non
  | ((with_reducible refine' eg_sub ?k1 ?k2); (case k1 => walk_at "ev"); (case k2 => walk_at "ev"))
  | ((with_reducible refine' eg_add ?k1 ?k2); (case k1 => walk_at "ev"); (case k2 => walk_at "ev"))
  | ((with_reducible refine' eg_lt ?k1 ?k2); (case k1 => walk_at "ev"); (case k2 => walk_at "ev"))
  | ((with_reducible refine' eg_le ?k1 ?k2); (case k1 => walk_at "ev"); (case k2 => walk_at "ev"))
  | ((with_reducible refine' eg_gt ?k1 ?k2); (case k1 => walk_at "ev"); (case k2 => walk_at "ev"))
  | ((with_reducible refine' eg_ge ?k1 ?k2); (case k1 => walk_at "ev"); (case k2 => walk_at "ev"))
  | ((with_reducible refine' eg_neg ?k1); (case k1 => walk_at "ev"))
  | ((with_reducible refine' eg_ixT ?k1 ?k2 ?k3); (case k1 => walk_at "ev"); (case k2 => walk_at "ev"); (case k3 => exact rfl))
  | ((with_reducible refine' eg_ixL ?k1 ?k2 ?k3); (case k1 => walk_at "ev"); (case k2 => walk_at "ev"); (case k3 => exact rfl))
  | ((with_reducible refine' eg_tup ?k1 ?k2); (case k1 => walk_at "av"); (case k2 => exact le1000 rfl))
  | ((with_reducible refine' eg_lst ?k1 ?k2); (case k1 => walk_at "av"); (case k2 => exact le1000 rfl))
  | ((with_reducible refine' eg_isN ?k1 ?k2); (case k1 => walk_at "ev"); (case k2 => exact rfl))
  | ((with_reducible refine' eg_notN ?k1 ?k2); (case k1 => walk_at "ev"); (case k2 => exact rfl))
  | ((with_reducible refine' eg_eqI ?k1 ?k2); (case k1 => walk_at "ev"); (case k2 => walk_at "ev"))
  | ((with_reducible refine' eg_eqStr ?k1 ?k2); (case k1 => walk_at "ev"); (case k2 => walk_at "ev"))
  | assumption)
local macro_rules | `(tactic| walk_at "av") => `(tactic| first
  | with_reducible exact ag_nil
  | ((with_reducible refine' ag_cons ?k1 ?k2); (case k1 => walk_at "ev"); (case k2 => walk_at "av")))
local macro_rules | `(tactic| walk_at "tv") => `(tactic| first
  | ((with_reducible refine' tg_test ?k1); (case k1 => walk_at "ev"))
  | ((with_reducible refine' tg_B ?k1); (case k1 => walk_at "ev"))
  | ((with_reducible refine' tg_not ?k1); (case k1 => walk_at "tv")))
local macro_rules | `(tactic| walk_at "nm") => `(tactic| first | dsimp only [cxOf] | skip)

section
variable {B : Bs} {mg : Str → Option Value} {base : Heap}
def fsOf (vo vg vm vc vr : L2.V) (p : Addr) : List (Str × L2.V) := putF "memo" (.ref p) (putF "rule" vr (putF "chance" vc (putF "manner" vm (putF "goal" vg (putF "own" vo [])))))
theorem putF_lt {f : Str} {v : L2.V} : ∀ {fs : List (Str × L2.V)} {n : Nat}, fs.length ≤ n → (putF f v fs).length ≤ n + 1
  | [], n, h => by unfold putF; rw [List.length_singleton]; omega
  | (g, x) :: r, n, h => by
    rw [List.length_cons] at h
    unfold putF
    split
    · rw [List.length_cons]; omega
    · rw [List.length_cons]
      have := putF_lt (f := f) (v := v) (fs := r) (n := n - 1) (by omega)
      omega
def ISp (P : Program) (w : World) (K : PySem.W.Frag) (C : Addr) : L2.Sp := fun vs H Q _ => ∃ (pp : Addr → Prop) (x dx : Addr) (vk vg vm vc vr : L2.V) (l : Bool) (own : List Int), vs = [.ref x, vk, vg, vm, vc, vr] ∧ H x = some (.ins C dx []) ∧ pp x ∧ Pp (⟨P, w, K, pp⟩ : Bs) H ∧ R (⟨P, w, K, pp⟩ : Bs) H vk (row l (own.map D.int)) ∧
  ∀ (vo : L2.V) (p : Addr) (o : Obj) (H' : Hp), Sp x H H' → H p = none → x ≠ p → H' p = some (nd P w p o []) → H' x = some (.ins C dx (fsOf vo vg vm vc vr p)) → R (⟨P, w, K, pp⟩ : Bs) H' vo (.tup (own.map D.int)) → Q .non H'
theorem cg_tupleR {l : Bool} {r : List D} : CG B (rTupF B.K) [row l r] (.tup r) := by
  cases l
  · exact cg_tupleT
  · exact cg_tupleL
theorem ok_Looker_init (T : Txt B.K mg) : FnOk B.P B.w B.K mg base CX0 1 T.Looker_init.f T.Looker_init.d p_Looker_init (ISp B.P B.w B.K T.C) := by
  refine T.Looker_init.F.ok sc_Looker_init (fun vs H Q E h => by obtain ⟨_, _, _, _, _, _, _, _, _, _, rfl, _⟩ := h; rfl) fun cdv A outer s H vs Q E hr hs => ⟨_, (pss_cons (ps_asg (pe_tupF (pa_cons (pe_callTy (call_tupF (K := B.K) rfl) (by rfl) T.m_tuple (by decide +kernel) (pa_cons (pv 1) pa_nil)) (pa_cons (pv 2) (pa_cons (pv 3) (pa_cons (pv 4) (pa_cons (pv 5) pa_nil)))))) (k_pg (K := B.K) (n := 5) rfl rfl (pgs_cons (pg_fld (K := B.K) rfl (pv 0)) (pgs_cons (pg_fld (K := B.K) rfl (pv 0)) (pgs_cons (pg_fld (K := B.K) rfl (pv 0)) (pgs_cons (pg_fld (K := B.K) rfl (pv 0)) (pgs_cons (pg_fld (K := B.K) rfl (pv 0)) pgs_nil))))))) (pss_one (ps_fld (pv 0) (pe_dnew (B := B) rfl rfl) rfl))), ?_⟩
  obtain ⟨pp, x, dx, vk, vg, vm, vc, vr, l, own, rfl, hx, hpx, pq, rk, q⟩ := hs
  have r0 : Rep (B.at pp) H (L2.start n_Looker_init [.ref x, vk, vg, vm, vc, vr]) [some (.raw (.ref x)), some (row l (own.map D.int)), some (.raw vg), some (.raw vm), some (.raw vc), some (.raw vr)] := rep_start (ds := [.raw (.ref x), row l (own.map D.int), .raw vg, .raw vm, .raw vc, .raw vr]) pq (.cons (.raw _) (.cons rk (.cons (.raw _) (.cons (.raw _) (.cons (.raw _) (.cons (.raw _) .nil))))))
  dsimp only [tSeq, tAsg]
  refine (eg_tup (B := B.at pp) (ds := [.tup (own.map D.int), .raw vg, .raw vm, .raw vc, .raw vr]) (ag_cons (eg_bi (ag_cons (by walk_at "ev") ag_nil) cg_tupleR) (by walk_at "av")) (le1000 rfl)) _ H r0 _ fun v H1 e1 r1 => ?_
  obtain ⟨a, xs, rfl, hxs, rxs⟩ := r1.tup_inv
  cases rxs with
  | cons ro rxs =>
  rename_i vo _
  cases rxs with
  | cons rg rxs =>
  cases rxs with
  | cons rm rxs =>
  cases rxs with
  | cons rc rxs =>
  cases rxs with
  | cons rr rxs =>
  cases rxs
  obtain rfl := rg.raw_inv
  obtain rfl := rm.raw_inv
  obtain rfl := rc.raw_inv
  obtain rfl := rr.raw_inv
  rename_i vg vm vc vr
  have sp : ∀ {Ha Hb : Hp} {fs fs' : List (Str × L2.V)}, Sp x Ha Hb → Hb x = some (.ins T.C dx fs) → Sp x Ha (upd Hb x (.ins T.C dx fs')) := fun s h => s.trans (Sp.upd h fun _ _ z => nomatch z)
  have h1 : H1 x = some (.ins T.C dx []) := e1 _ _ hx
  have s1 : Sp x H H1 := .of e1
  refine ⟨a, _, rfl, hxs.sq, rfl, ?_⟩
  refine ⟨_, _, rfl, _, rfl, x, T.C, dx, [], rfl, h1, T.cl_Looker, T.n_own, by decide, ?_⟩
  refine ⟨_, _, rfl, _, rfl, x, T.C, dx, _, rfl, upd_same, T.cl_Looker, T.n_goal, Nat.lt_of_le_of_lt (putF_lt (Nat.le_refl 0)) (by decide), ?_⟩
  refine ⟨_, _, rfl, _, rfl, x, T.C, dx, _, rfl, upd_same, T.cl_Looker, T.n_manner, Nat.lt_of_le_of_lt (putF_lt (putF_lt (Nat.le_refl 0))) (by decide), ?_⟩
  refine ⟨_, _, rfl, _, rfl, x, T.C, dx, _, rfl, upd_same, T.cl_Looker, T.n_chance, Nat.lt_of_le_of_lt (putF_lt (putF_lt (putF_lt (Nat.le_refl 0)))) (by decide), ?_⟩
  refine ⟨_, _, rfl, _, rfl, x, T.C, dx, _, rfl, upd_same, T.cl_Looker, T.n_rule, Nat.lt_of_le_of_lt (putF_lt (putF_lt (putF_lt (putF_lt (Nat.le_refl 0))))) (by decide), ?_⟩
  have s2 := sp s1 h1 (fs' := putF "own" vo [])
  have s3 := sp s2 upd_same (fs' := putF "goal" vg (putF "own" vo []))
  have s4 := sp s3 upd_same (fs' := putF "manner" vm (putF "goal" vg (putF "own" vo [])))
  have s5 := sp s4 upd_same (fs' := putF "chance" vc (putF "manner" vm (putF "goal" vg (putF "own" vo []))))
  have s6 := sp s5 upd_same (fs' := putF "rule" vr (putF "chance" vc (putF "manner" vm (putF "goal" vg (putF "own" vo [])))))
  refine ⟨rfl, fun p o hp => ?_⟩
  have hne : x ≠ p := fun z => by rw [← z, upd_same] at hp; cases hp
  have s7 := s6.trans (Sp.of (same_new (o := nd B.P B.w p o []) hp))
  refine ⟨_, rfl, x, T.C, dx, _, rfl, by rw [upd_ne hne]; exact upd_same, T.cl_Looker, T.n_memo, Nat.lt_of_le_of_lt (putF_lt (putF_lt (putF_lt (putF_lt (putF_lt (Nat.le_refl 0)))))) (by decide), ?_⟩
  have s8 := sp s7 (by rw [upd_ne hne]; exact upd_same) (fs' := fsOf vo vg vm vc vr p)
  refine q vo p o _ s8 ?_ hne (by rw [upd_ne (Ne.symm hne)]; exact upd_same) upd_same ?_
  · cases z : H p with
    | none => rfl
    | some u => exact absurd hp (s6.th p (by rw [z]; exact fun y => nomatch y))
  · have s18 : Sp x H1 _ := sp ((sp (sp (sp (sp (sp (Sp.refl H1) h1 (fs' := putF "own" vo [])) upd_same (fs' := putF "goal" vg (putF "own" vo []))) upd_same (fs' := putF "manner" vm (putF "goal" vg (putF "own" vo [])))) upd_same (fs' := putF "chance" vc (putF "manner" vm (putF "goal" vg (putF "own" vo []))))) upd_same (fs' := putF "rule" vr (putF "chance" vc (putF "manner" vm (putF "goal" vg (putF "own" vo [])))))).trans (Sp.of (same_new (o := nd B.P B.w p o []) hp))) (by rw [upd_ne hne]; exact upd_same) (fs' := fsOf vo vg vm vc vr p)
    exact ro.sm (s18.sm hpx)
theorem ra_intsP {pp' : Addr → Prop} {H : Hp} : ∀ {vs : List L2.V} {ns : List Int}, RA B H vs (ns.map D.int) → RA (B.at pp') H vs (ns.map D.int)
  | [], [], _ => .nil
  | [], _ :: _, h => by cases h
  | _ :: _, [], h => by cases h
  | v :: vs, n :: ns, h => by
    cases h with
    | cons r t =>
      obtain rfl := r.int_inv
      exact .cons (.int n) (ra_intsP t)
theorem eg_looker {Γ : Gm} {C : Addr} {t1 t2 : TA} {E E' : XK} {lo l1 l2 c : Bool} {own : List Int} {g mm : Int} {m : Str} {q : Rat} {T : Tw} {n N L : Nat} (h1 : AG B t1 Γ [row lo (own.map D.int), .int g, .str m, row l1 (chD q.num q.den), row l2 (rl c mm)]) (h2 : ∀ p, AG (B.op p) t2 Γ [tw T, .int (n : Nat)])
    (hn : n < L) (hv : VOk N n T own m q mm) (hl : cb own.length n ≤ 99000) : EG B (tMeth C ("best" : Str) (MSp B.P B.w B.K C L) [] E (tMake C (ISp B.P B.w B.K C) [] E' t1) t2) Γ (vlD (vl (cN g m) own q c mm n T)) := fun σ H r Q qq => by
  refine h1 σ H r _ fun vs H1 e1 r1 x dx hx hdx hne => ?_
  cases r1 with
  | cons rk r1 =>
  rename_i vk _
  cases r1 with
  | cons rg r1 =>
  cases r1 with
  | cons rm r1 =>
  cases r1 with
  | cons rc r1 =>
  rename_i vc _
  cases r1 with
  | cons rr r1 =>
  rename_i vr _
  cases r1
  obtain rfl := rg.int_inv
  obtain rfl := rm.str_inv
  have e2 : Same H1 (upd (upd H1 dx (.own x)) x (.ins C dx [])) := (same_new hdx).trans (same_new (by rw [upd_ne (Ne.symm hne)]; exact hx))
  have hx0 : H x = none := by
    cases z : H x with
    | none => rfl
    | some u => rw [e1 _ _ z] at hx; cases hx
  have rq : Rep (B.op x) (upd (upd H1 dx (.own x)) x (.ins C dx [])) σ Γ := r.opn hx0 (e1.trans e2) (by rw [upd_same]; exact fun z => nomatch z)
  refine ⟨(B.op x).pp, x, dx, vk, .int g, .str m, vc, vr, lo, own, rfl, upd_same, op_pp, rq.pp, (R.opn rk hx).ext e2, fun vo p o H' s hp hxp hnd hins rvo => ⟨rfl, ?_⟩⟩
  have hp1 : H1 p = none := by
    cases z : H1 p with
    | none => rfl
    | some u => rw [e2 _ _ z] at hp; cases hp
  have hp0 : H p = none := by
    cases z : H p with
    | none => rfl
    | some u => rw [e1 _ _ z] at hp1; cases hp1
  have E1 : Same H1 H' := Sp.same_from e2 s hx
  have E0 : Same H H' := e1.trans E1
  refine ⟨x, dx, _, rfl, hins, rfl, ?_⟩
  have r' : Rep (B.op p) H' σ Γ := r.opn hp0 E0 (by rw [hnd]; exact fun z => nomatch z)
  refine h2 p σ H' r' _ fun vs H2 e3 r3 => ?_
  obtain ⟨v, u, rfl, rv, ru⟩ := r3.two
  obtain rfl := ru.int_inv
  obtain ⟨ao, xo, rfl, hxo, rxo⟩ := rvo.tup_inv
  have j : MJ B C ⟨x, p, dx, fsOf (.ref ao) (.int g) (.str m) vc vr p, .ref ao, vc, vr, own, g, m, q, c, mm, l1, l2⟩ [] H' := by
    refine ⟨⟨hins, .tup hxo (ra_intsP (B := B.op x) (pp' := (B.op p).pp) rxo), (R.opn rc hp1).ext E1, (R.opn rr hp1).ext E1⟩, ?_, ⟨o, [], hnd, .nil⟩, fun e he => absurd he List.not_mem_nil⟩
    obtain ⟨_, _, _, ho, _, hc, m1, m3⟩ := hv
    exact ⟨hxp, rfl, rfl, rfl, rfl, rfl, rfl, rfl, rfl, hc, m1, m3, ho⟩
  exact ⟨B.pp, _, v, T, n, N, [], rfl, (r'.ext e3).pp, mj_stb _ _ _ e3 j, rv, hn, hv, by rw [List.length_nil, Nat.zero_add]; exact hl, fun w H3 kv' s' j' rw' _ => qq w H3 (Sp.same_from (E0.trans e3) s' hp0) rw'.shut⟩
def S_looker (ds : List D) (e : D) : Prop := ∃ (T : Tw) (lo l1 l2 c : Bool) (own : List Int) (n N : Nat) (g : Int) (m : Str) (p : Rat) (mm : Int), ds = [tw T, row lo (own.map D.int), .int (n : Nat), .int g, .str m, row l1 (chD p.num p.den), row l2 (rl c mm)] ∧ VOk N n T own m p mm ∧ own.Nodup ∧ n ≤ 8 ∧ cb own.length n ≤ 99000 ∧ e = vlD (vl (cN g m) own p c mm n T)
theorem mk_Looker (T : Txt B.K mg) : Mk B.K T.C T.Looker_init.f := ⟨T.mk_Looker, T.Looker_init.m.at_, T.Looker_init.m.fn, T.kp_Looker⟩
theorem ok_looker (T : Txt B.K mg) : FnOk B.P B.w B.K mg base CX0 18 T.looker.f T.looker.d p_looker (PSp B.P B.w B.K S_looker) := by
  have G_checked := ok_checked (base := base) T
  have G_look_unlike := ok_look_unlike (base := base) T
  have G_look_from := ok_look_from (base := base) T
  have G_look_key := ok_look_key (base := base) T
  have G_look_manner := ok_look_manner (base := base) T
  have G_look_chance := ok_look_chance (base := base) T
  have G_look_finite := ok_look_finite (base := base) T
  have G_Looker_init := ok_Looker_init (base := base) T
  have G_Looker_best := ok_best (base := base) T 9
  have M_Looker := mk_Looker T
  refine fn_pure T.looker.F sc_looker (fun ds e h => by obtain ⟨_, _, _, _, _, _, _, _, _, _, _, _, rfl, _⟩ := h; rfl) fun pp cdv A outer s H E ds e hr hS => ⟨_, (pss_cons (ps_set (i := 7) sc_looker.nd rfl (Or.inl rfl) (pe_call G_checked (hr.mono (by decide)) (by rfl) T.checked.g T.checked.F.kp T.checked.b .nil pass0 (pa_cons (pv 0) pa_nil))) (pss_cons (ps_expr (pe_call G_look_unlike (hr.mono (by decide)) (by rfl) T.look_unlike.g T.look_unlike.F.kp T.look_unlike.b .nil pass0 (pa_cons (pv 1) pa_nil))) (pss_cons (ps_expr (pe_call G_look_from (hr.mono (by decide)) (by rfl) T.look_from.g T.look_from.F.kp T.look_from.b .nil pass0 (pa_cons (pv 2) (pa_cons pe_int (pa_cons (pe_glob (by rfl) T.c_MOST_DEEDS.g T.c_MOST_DEEDS.r) pa_nil))))) (pss_cons (ps_expr (pe_call G_look_key (hr.mono (by decide)) (by rfl) T.look_key.g T.look_key.F.kp T.look_key.b .nil pass0 (pa_cons (pv 3) pa_nil))) (pss_cons (ps_expr (pe_call G_look_manner (hr.mono (by decide)) (by rfl) T.look_manner.g T.look_manner.F.kp T.look_manner.b .nil pass0 (pa_cons (pv 4) pa_nil))) (pss_cons (ps_expr (pe_call G_look_chance (hr.mono (by decide)) (by rfl) T.look_chance.g T.look_chance.F.kp T.look_chance.b .nil pass0 (pa_cons (pv 5) pa_nil))) (pss_cons (ps_expr (pe_call G_look_finite (hr.mono (by decide)) (by rfl) T.look_finite.g T.look_finite.F.kp T.look_finite.b .nil pass0 (pa_cons (pv 6) pa_nil))) (pss_one (ps_ret (pe_meth (pe_make M_Looker G_Looker_init (hr.mono (by decide)) (by rfl) T.g_Looker T.Looker_init.b .nil pass0 (pa_cons (pv 1) (pa_cons (pv 3) (pa_cons (pv 4) (pa_cons (pv 5) (pa_cons (pv 6) pa_nil)))))) T.cl_Looker T.Looker_best.m G_Looker_best (hr.mono (by decide)) T.Looker_best.b .nil pass0 (pa_cons (pv 7) (pa_cons (pv 2) pa_nil)))))))))))), ?_⟩
  obtain ⟨Tv, lo, l1, l2, c, own, n, N, g, m, p, mm, rfl, hv, hnd, hn8, hcb, rfl⟩ := hS
  obtain ⟨w, hn1, hn2, ho, hm, hc, m1, m3⟩ := id hv
  obtain ⟨t1, t2⟩ := wk_ok w (by omega)
  have hch : ChOk p.num p.den := hc.ok
  refine sg_ctx [some (tw Tv), some (row lo (own.map D.int)), some (.int (n : Nat)), some (.int g), some (.str m), some (row l1 (chD p.num p.den)), some (row l2 (rl c mm)), none] rfl ?_
  refine sg_seq (sg_asg (eg_call (by walk_at "av") ⟨Tv, rfl, t1, rfl⟩) ?_)
  refine sg_seq (sg_drop (eg_call (d := .non) (by walk_at "av") ⟨lo, own, rfl, hnd, by omega, rfl⟩) ?_)
  refine sg_seq (sg_drop (eg_call (d := .non) (by walk_at "av") ⟨(n : Nat), 0, 8, rfl, by omega, by omega, rfl⟩) ?_)
  refine sg_seq (sg_drop (eg_call (d := .non) (by walk_at "av") ⟨g, rfl, rfl⟩) ?_)
  refine sg_seq (sg_drop (eg_call (d := .non) (by walk_at "av") ⟨m, rfl, hm, rfl⟩) ?_)
  refine sg_seq (sg_drop (eg_call (d := .non) (by walk_at "av") ⟨l1, p.num, p.den, rfl, hch.1, hch.2.1, hch.2.2, rfl⟩) ?_)
  refine sg_seq (sg_drop (eg_call (d := .non) (by walk_at "av") ⟨l2, c, mm, rfl, m1, by omega, rfl⟩) ?_)
  refine sg_ret (eg_looker (B := B.at pp) (lo := lo) (l1 := l1) (l2 := l2) (own := own) (g := g) (m := m) (q := p) (c := c) (mm := mm) (by walk_at "av") (fun pa => by walk_at "av") (by omega) hv hcb) rfl
end
end Tl
end
section
set_option Elab.async false
set_option linter.all false
set_option maxRecDepth 100000
set_option maxHeartbeats 2000000
set_option autoImplicit false
/-! A list of three ints that is drawn from. -/
namespace Tl
open PySem PySem.Spec PyProof.Rows L2
section
variable {B : Bs} {Γ : Gm} {ta tb te : TE} {d e f : D}
theorem og_eg2 {r : R2} {x y f : D} (h : EG B (tOp r (tVar 0) (tVar 1)) [some x, some y] f) : OG B r x y f := fun H v w pq rv rw' Q q => by
  have z := h [some v, some w] H ⟨pq, rfl, fun k dd hk => by
    match k, hk with
    | 0, hk => cases hk; exact ⟨v, rfl, rv⟩
    | 1, hk => cases hk; exact ⟨w, rfl, rw'⟩
    | k + 2, hk => simp at hk⟩ Q q
  obtain ⟨x', hx', y', hy', z⟩ := z
  cases hx'
  cases hy'
  exact z
theorem og_ixL2 {ds : List D} {i : Int} (h : atI ds i = some d) : OG B (rIxA B.K) (.lst ds) (.int i) d := og_eg2 (eg_ixL (ds := ds) (i := i) (eg_var rfl) (eg_var rfl) h)
theorem og_add {i j : Int} : OG B (rAddA B.K) (.int i) (.int j) (.int (i + j)) := og_eg2 (eg_add (eg_var rfl) (eg_var rfl))
theorem og_mod {i j : Int} (h : 0 < j) : OG B (rI (fun _ j => 0 < j) fun i j => .int (i % j)) (.int i) (.int j) (.int (i % j)) := og_eg2 (eg_mod (eg_var rfl) (eg_var rfl) h)
theorem og_fdiv {i j : Int} (h : CDivW i j) : OG B (rI CDivW fun i j => .int (i / j)) (.int i) (.int j) (.int (i / j)) := og_eg2 (eg_fdiv (eg_var rfl) (eg_var rfl) h)
theorem og_mul {i j : Int} (h : CMul i j ∨ CMulW i j) : OG B rMulA (.int i) (.int j) (.int (i * j)) := og_eg2 (eg_mul (eg_var rfl) (eg_var rfl) h)
theorem og_pow {i j : Int} (h : CPow i j) : OG B (rI CPow fun i j => .int (i ^ j.toNat)) (.int i) (.int j) (.int (i ^ j.toNat)) := og_eg2 (eg_pow (eg_var rfl) (eg_var rfl) h)
theorem og_gt {i j : Int} : OG B (rI0 fun i j => .bl (decide (j < i))) (.int i) (.int j) (.bl (decide (j < i))) := og_eg2 (eg_gt (eg_var rfl) (eg_var rfl))
theorem og_is {r : R2} {x y f g : D} (h : OG B r x y f) (e : f = g) : OG B r x y g := e ▸ h
theorem ra_take : ∀ {H : Hp} {vs : List V} {ds : List D} (n : Nat), RA B H vs ds → RA B H (vs.take n) (ds.take n)
  | _, _, _, 0, _ => .nil
  | _, _, _, _ + 1, .nil => .nil
  | _, _, _, n + 1, .cons r t => .cons r (ra_take n t)
theorem cut_take (xs : List V) (n : Nat) : cutV xs none (some (n : Int)) = xs.take n := by
  unfold cutV
  rw [HT.sIx_none, HT.sIx_nat, List.drop_zero, Nat.sub_zero]
  by_cases h : n ≤ xs.length
  · rw [Nat.min_eq_left h]
  · rw [Nat.min_eq_right (by omega), List.take_of_length_le (Nat.le_refl _), List.take_of_length_le (by omega)]
theorem eg_sl {ds : List D} {n : Nat} (ha : EG B ta Γ (.lst ds)) (hb : EG B tb Γ (.int (n : Nat))) : EG B (tSl (rSlL B.K) ta tNoPart (tPart tb)) Γ (.lst (ds.take n)) := fun σ H r Q q => by
  refine ha σ H r _ fun v H1 e1 r1 => hb σ H1 (r.ext e1) _ fun w H2 e2 r2 => ?_
  obtain rfl := r2.int_inv
  obtain ⟨a, xs, rfl, hx, rx⟩ := r1.lst_inv
  refine ⟨_, rfl, a, xs, rfl, SqL.of (e2 _ _ hx), fun p hp => ?_⟩
  rw [cut_take]
  exact q _ _ (e1.trans (e2.trans (same_new hp))) (.lst upd_same (((r.ext e1).ext e2).pp.new hp) ((ra_take n (rx.ext e2)).ext (same_new hp)))
end
section
variable {B : Bs} {p : Addr} {Rr : Hp → V → D → Prop} {ι : Type} {J : ι → Hp → Prop} {Γ : Gm} {m : ι} {t u : TS} {O : OutI ι → Prop} {te tb : TE} {ta : TA} {d e f : D}
theorem ei_sl {ds : List D} {Oe : D → ι → Prop} (hJ : Stb J) (hp : B.pp p) (ha : EG B te Γ (.lst ds)) (hb : EI B p J tb Γ m (fun d m' => ∃ n : Nat, d = .int (n : Nat) ∧ Oe (.lst (ds.take n)) m')) : EI B p J (tSl (rSlL B.K) te tNoPart (tPart tb)) Γ m Oe := fun σ H r j Q q => by
  refine ha σ H r _ fun v H1 e1 r1 => hb σ H1 (r.ext e1) (hJ _ _ _ e1 j) _ fun w H2 d m' s2 j2 r2 ho => ?_
  obtain ⟨n, rfl, ho⟩ := ho
  obtain rfl := r2.int_inv
  have r3 := r1.sm (s2.sm hp)
  obtain ⟨a, xs, rfl, hx, rx⟩ := r3.lst_inv
  refine ⟨_, rfl, a, xs, rfl, SqL.of hx, fun pa hpa => ?_⟩
  rw [cut_take]
  exact q _ _ _ m' ((Sp.of e1).trans (s2.trans (Sp.of (same_new hpa)))) (hJ _ _ _ (same_new hpa) j2) (.lst upd_same (((r.ext e1).sm (s2.sm hp)).pp.new hpa) ((ra_take n rx).ext (same_new hpa))) ho
theorem si_par3 (hp : B.pp p) {i k l : Nat} (h : AI B p J ta Γ m (fun ds m' => ∃ d e f, ds = [d, e, f] ∧ O (.nx (((Γ.set i (some d)).set k (some e)).set l (some f)) m'))) : SI B p Rr J (tPar3 i k l ta) Γ m O := fun σ H E r j nn qq bb cc => h σ H r j _ fun vs H1 ds m' s1 j1 r1 ⟨d, e, f, hds, o⟩ => by
  subst hds
  cases r1 with
  | cons ra r1 =>
    obtain ⟨v, w, rfl, rv, rw'⟩ := r1.two
    exact ⟨_, v, w, rfl, nn _ H1 _ m' s1 j1 ((((r.sm (s1.sm hp)).set i ra).set k rv).set l rw') o⟩
/-- a comprehension whose elements are drawn -/
theorem ei_lcR {wi : TI} {g : TG} {vs : List Nat} {xs : List D} {js : List Nat} {Oe : D → ι → Prop} (hJ : Stb J) (hM : Mv p J) (hp : B.pp p) (hw : WG B wi Γ xs) (hj : ∀ j ∈ js, j ∈ vs) (hl : xs.length ≤ 100000) (I : Nat → List D → ι → Prop) (h0 : I 0 [] m)
    (hs : ∀ (i : Nat) (x : D) (ac : List D) (m' : ι), xs[i]? = some x → I i ac m' → ∃ Γ1, GG B g js x (wipeG Γ vs) Γ1 ∧ EI B p J te Γ1 m' (fun d m2 => fz d = true ∧ I (i + 1) (ac ++ [d]) m2)) (ho : ∀ ac m', I xs.length ac m' → Oe (.lst ac) m') : EI B p J (tLc wi g tYes te vs) Γ m Oe := fun σ H r j Q q =>
  hw σ H r _ fun JJ H1 G Y e1 w hG hY Dd hD => by
    have j1 := hJ _ _ _ e1 j
    have hpn : Dd ≠ p := fun z => (r.ext e1).pp p hp (z ▸ hD)
    refine lc_it w (fun i H' => ∃ m' acc ac, H' Dd = some (.lst acc) ∧ Sp p H1 H' ∧ J m' H' ∧ RA B H' acc ac ∧ fzs ac = true ∧ ac.length = i ∧ I i ac m') ⟨m, [], [], upd_same, .of (same_new hD), hJ _ _ _ (same_new hD) j1, .nil, by rw [fzs], rfl, h0⟩ (fun i H' hi ⟨m', acc, ac, h1, h2, h3, h4, h5⟩ => hG B.pp H' (Ex.refl B H1) (h2.sm hp)) ?_ ?_
    · rintro i x H' H2 hi ⟨m', acc, ac, h1, h2, h3, h4, hfz, hlen, h5⟩ y
      have hx : xs[i]? = some xs[i] := List.getElem?_eq_getElem hi
      obtain ⟨s2, rx⟩ := hY B.pp i H' x H2 _ (Ex.refl B H1) (h2.sm hp) hx y
      obtain ⟨Γ1, hg, he⟩ := hs i xs[i] ac m' hx h5
      have r2 : Rep B H2 (L2.wipe σ vs) (wipeG Γ vs) := (((r.ext e1).sm (h2.sm hp)).ext s2).wipe vs
      refine hg _ H2 x r2 rx _ fun σ2 r3 hw2 => ⟨(hw2 vs hj).trans wipe_idem, ?_⟩
      unfold tYes
      dsimp only
      rw [if_pos rfl]
      refine he σ2 H2 r3 (hJ _ _ _ s2 h3) _ fun yv H4 dd m2 s4 j4 ry ⟨hdd, h6⟩ => ?_
      have hD4 : H4 Dd = some (.lst acc) := s4.off Dd _ hpn (s2 _ _ h1)
      have s14 : Sp p H1 H4 := h2.trans ((Sp.of s2).trans s4)
      refine ⟨acc, hD4, by rw [h4.length, hlen, sizeLine_eq]; omega, m2, acc ++ [yv], ac ++ [dd], upd_same, s14.upd_new hD, hM m m2 H1 H4 Dd acc _ j1 hD s14 hD4 j4, ?_, ?_, by rw [List.length_append, hlen]; rfl, h6⟩
      · exact RA.append (((h4.ext s2).sm (s4.sm hp)).frz (tk_lst hD4) hfz) (.cons (ry.frz (tk_lst hD4) hdd) .nil)
      · have : ∀ zs : List D, fzs zs = true → fzs (zs ++ [dd]) = true := by
          intro zs
          induction zs with
          | nil => intro _; rw [List.nil_append, fzs, hdd, fzs]; rfl
          | cons z zs ih =>
            intro hz
            rw [fzs, Bool.and_eq_true] at hz
            rw [List.cons_append, fzs, hz.1, ih hz.2]
            rfl
        exact this ac hfz
    · rintro H' ⟨m', acc, ac, h1, h2, h3, h4, h5, h6, h7⟩
      exact q _ H' _ m' ((Sp.of e1).trans h2) h3 (.lst h1 ((r.ext e1).pp.new hD) h4) (ho ac m' h7)
/-- .. where what is walked is drawn too -/
theorem ei_lcE {g : TG} {vs : List Nat} {js : List Nat} {Oe : D → ι → Prop} {tw' : TE} (hJ : Stb J) (hM : Mv p J) (hp : B.pp p) (hj : ∀ j ∈ js, j ∈ vs)
    (h : EI B p J tw' Γ m (fun d m1 => ∃ (xs : List D) (I : Nat → List D → ι → Prop), d = .lst xs ∧ xs.length ≤ 100000 ∧ I 0 [] m1 ∧ (∀ (i : Nat) (x : D) (ac : List D) (m' : ι), xs[i]? = some x → I i ac m' → ∃ Γ1, GG B g js x (wipeG Γ vs) Γ1 ∧ EI B p J te Γ1 m' (fun d m2 => fz d = true ∧ I (i + 1) (ac ++ [d]) m2)) ∧ ∀ ac m', I xs.length ac m' → Oe (.lst ac) m')) : EI B p J (tLc (iList B.K tw') g tYes te vs) Γ m Oe := fun σ H r j Q q => by
  refine h σ H r j _ fun v H1 d m1 s1 j1 r1 hh => ?_
  obtain ⟨xs, I, rfl, hl, h0, hs, ho⟩ := hh
  have z := ei_lcR (B := B) (p := p) (J := J) (Γ := Γ) (m := m1) (te := te) (g := g) (vs := vs) (Oe := Oe) (xs := xs) (wi := iList B.K (fun σ' H' Q' => σ' = σ → H' = H1 → Q' v H1)) hJ hM hp (wg_list fun σ' H' r' Q' q' e1 e2 => by subst e2; exact q' v _ (Same.refl _) r1) hj hl I h0 hs ho σ H1 (r.sm (s1.sm hp)) j1 Q fun w H' d' m' s' => q w H' d' m' (s1.trans s')
  exact z rfl rfl
end
/-! reading and writing a list of one's own -/
section
variable {B : Bs} {p : Addr} {Γ : Gm} {te : TE} {d : D}
theorem ej_own {i : Nat} {k j : Int} {ds : List D} (hn : ¬ B.pp p) (hi : Γ[i]? = some (some (raw p))) (h : atI ds j = some (.int k)) : EJ (B.op p) (LJ B p) (tOp (rIxA B.K) (tVar i) (tC (.int j))) Γ ds (.int k) := fun σ H r jj Q q => by
  obtain ⟨w, hw, rw'⟩ := r.at_ i _ hi
  obtain rfl := rw'.raw_inv
  refine ⟨_, hw, og_ixL2 (B := B) h H (.ref p) (.int j) r.shut.pp (jj.data hn) (.int j) Q fun v H' e rv => q v H' e ?_⟩
  obtain rfl := rv.int_inv
  exact .int k
theorem ra_set : ∀ {H : Hp} {vs : List V} {ds : List D} (n : Nat) {v : V} {d : D}, RA B H vs ds → R B H v d → RA B H (vs.set n v) (ds.set n d)
  | _, _, _, _, _, _, .nil, _ => .nil
  | _, _, _, 0, _, _, .cons r t, rv => .cons rv t
  | _, _, _, n + 1, _, _, .cons r t, rv => .cons r (ra_set n t rv)
theorem si_setL {i : Nat} {j : Int} {n : Nat} {ds : List D} {Rr : Hp → V → D → Prop} {O : OutI (List D) → Prop} (hi : Γ[i]? = some (some (raw p))) (hv : EJ (B.op p) (LJ B p) te Γ ds d) (hj : ixN ds.length j = some n) (o : O (.nx Γ (ds.set n d))) : SI (B.op p) p Rr (LJ B p) (tAsg te (gSub (tVar i) (tC (.int j)) rSetL)) Γ ds O := fun σ H E r jj nn qq b c => by
  refine hv σ H r jj _ fun v H1 e1 rv => ?_
  obtain ⟨w, hw, rw'⟩ := r.at_ i _ hi
  obtain rfl := rw'.raw_inv
  obtain ⟨xs, hx, rx⟩ := lj_stb _ _ _ e1 jj
  refine ⟨_, hw, p, xs, j, n, rfl, rfl, hx, by rw [rx.length]; exact hj, ?_⟩
  have s1 : Sp p H1 (upd H1 p (.lst (xs.set n v))) := Sp.upd hx fun _ _ z => nomatch z
  exact nn σ _ Γ _ ((Sp.of e1).trans s1) ⟨_, upd_same, (ra_set n rx rv).sm (s1.sm op_pp)⟩ ((r.ext e1).sm (s1.sm op_pp)) o
end
/-! the purse -/
def PJ (p : Addr) (n : Nat) (H : Hp) : Prop := ∃ x y z : Int, H p = some (.lst [.int x, .int y, .int z]) ∧ 0 ≤ x ∧ 0 ≤ y ∧ y < 2147483563 ∧ 3 ≤ z ∧ z ≤ (n : Int) + 3
theorem pj_stb {p : Addr} : Stb (PJ p) := fun n H H' e ⟨x, y, z, h, k⟩ => ⟨x, y, z, e _ _ h, k⟩
theorem pj_mv {p : Addr} : Mv p (PJ p) := fun m0 m H0 H Dd acc acc' ⟨x0, y0, z0, h0, _⟩ hn s hD ⟨x, y, z, h, k⟩ => ⟨x, y, z, by rw [upd_ne (ne_of_none h0 hn)]; exact h, k⟩
/-- what a def does that draws: at most k draws, then a value as P says -/
def ESp (P : Program) (w : World) (K : PySem.W.Frag) (S : List D → Nat → (D → Prop) → Prop) : L2.Sp := fun vs H Q _ => ∃ (pp : Addr → Prop) (p : Addr) (vs' : List V) (ds : List D) (n k : Nat) (Po : D → Prop), vs = .ref p :: vs' ∧ ¬ pp p ∧ Pp ((⟨P, w, K, pp⟩ : Bs).op p) H ∧ PJ p n H ∧ RA ((⟨P, w, K, pp⟩ : Bs).op p) H vs' ds ∧ S ds k Po ∧ n + k ≤ 1000000 ∧
  ∀ v H' d n', Sp p H H' → PJ p n' H' → n' ≤ n + k → R ((⟨P, w, K, pp⟩ : Bs).op p) H' v d → Po d → Q v H'
def drO (M : Nat) (Po : D → Prop) : OutI Nat → Prop
  | .nx _ _ => False
  | .rt d n => n ≤ M ∧ Po d
  | .bk _ _ => False
  | .ct _ _ => False
section
variable {B : Bs} {p : Addr} {Γ : Gm} {ta : TA}
theorem ei_draw {S : List D → Nat → (D → Prop) → Prop} {E : XK} {i n : Nat} {O : D → Nat → Prop} (hn : ¬ B.pp p) (hi : Γ[i]? = some (some (raw p))) (h : AI (B.op p) p (PJ p) ta Γ n (fun ds m => ∃ k Po, S ds k Po ∧ m + k ≤ 1000000 ∧ ∀ d n', Po d → n' ≤ m + k → O d n')) : EI (B.op p) p (PJ p) (tCall (ESp B.P B.w B.K S) [] E (tCons (tVar i) ta)) Γ n O := fun σ H r j Q q => by
  obtain ⟨w, hw, rw'⟩ := r.at_ i _ hi
  obtain rfl := rw'.raw_inv
  refine ⟨_, hw, h σ H r j _ fun vs H1 ds m s1 j1 r1 hh => ?_⟩
  obtain ⟨k, Po, hS, hk, ho⟩ := hh
  refine ⟨B.pp, p, vs, ds, m, k, Po, by rw [List.append_nil], hn, (r.sm (s1.sm op_pp)).pp, j1, r1, hS, hk, fun v H2 d n' s2 j2 hn' rv po => q v H2 d n' (s1.trans s2) j2 rv (ho d n' po hn')⟩
end
section
variable {B : Bs} {mg : Str → Option Value} {base : Heap}
theorem fn_draw {x qual : Str} {st : Stmt} {f : Addr} {fd : FuncData} {N ps : List Str} {k : Nat} {S : List D → Nat → (D → Prop) → Prop} (F : FunG B.K x qual st f fd) (Sc : FnScope N ps (defScope st)) (len : ∀ ds k Po, S ds k Po → ds.length + 1 = ps.length)
    (h : ∀ (pp : Addr → Prop) (p : Addr) (cdv : Value) (A : Around) (outer : List Env) (s : Shared) (H : Hp) (E : XK) (ds : List D) (n j : Nat) (Po : D → Prop), ¬ pp p → Room k (A.deeper (envOfC qual (defScope st) s.heap.objs.size f cdv)) → S ds j Po → n + j ≤ 1000000 →
      ∃ t, PSs (cxOf CX0 B.P B.w B.K mg base N qual (defScope st) f cdv A outer s H E).nox (defBody st) t ∧ SI ((B.at pp).op p) p (R ((B.at pp).op p)) (PJ p) t (startG N (raw p :: ds)) n (drO (n + j) Po)) : FnOk B.P B.w B.K mg base CX0 (k + 1) f fd ps (ESp B.P B.w B.K S) := by
  refine F.ok Sc (fun vs H Q E hs => ?_) fun cdv A outer s H vs Q E hr hs => ?_
  · obtain ⟨pp, p, vs', ds, n, k, Po, rfl, _, _, _, r, hS, _⟩ := hs
    rw [List.length_cons, r.length]
    exact len ds k Po hS
  · obtain ⟨pp, p, vs', ds, n, j, Po, rfl, hn, pq, jj, r, hS, hk, q⟩ := hs
    obtain ⟨t, ht, hg⟩ := h pp p cdv A outer s H E ds n j Po hn hr hS hk
    exact ⟨t, ht, hg _ H _ (rep_start (ds := raw p :: ds) pq (.cons (.raw _) r)) jj (fun _ _ _ _ _ _ _ o => o.elim) (fun v H' d n' s' j' r' o => q v H' d n' s' j' o.1 r' o.2) (fun _ _ _ _ _ _ _ o => o.elim) fun _ _ _ _ _ _ _ o => o.elim⟩
end
end Tl
end
section
set_option Elab.async false
set_option linter.all false
set_option maxRecDepth 100000
set_option maxHeartbeats 2000000
set_option autoImplicit false
set_option exponentiation.threshold 10000

/-! The law's draws. -/
namespace Tl
open PySem PySem.Spec PyProof.Rows L2
local macro_rules | `(tactic| walk_at "ev") => `(tactic| first
  | ((with_reducible refine' eg_var ?k1); (case k1 => exact rfl))
  | with_reducible exact eg_int
  | with_reducible exact eg_str
  | with_reducible exact eg_bl
  | with_reducible exact eg_non
  | ((with_reducible refine' eg_sub ?k1 ?k2); (case k1 => walk_at "ev"); (case k2 => walk_at "ev"))
  | ((with_reducible refine' eg_add ?k1 ?k2); (case k1 => walk_at "ev"); (case k2 => walk_at "ev"))
  | ((with_reducible refine' eg_lt ?k1 ?k2); (case k1 => walk_at "ev"); (case k2 => walk_at "ev"))
  | ((with_reducible refine' eg_le ?k1 ?k2); (case k1 => walk_at "ev"); (case k2 => walk_at "ev"))
  | ((with_reducible refine' eg_gt ?k1 ?k2); (case k1 => walk_at "ev"); (case k2 => walk_at "ev"))
  | ((with_reducible refine' eg_ge ?k1 ?k2); (case k1 => walk_at "ev"); (case k2 => walk_at "ev"))
  | ((with_reducible refine' eg_neg ?k1); (case k1 => walk_at "ev"))
  | ((with_reducible refine' eg_ixT ?k1 ?k2 ?k3); (case k1 => walk_at "ev"); (case k2 => walk_at "ev"); (case k3 => exact rfl))
  | ((with_reducible refine' eg_ixL ?k1 ?k2 ?k3); (case k1 => walk_at "ev"); (case k2 => walk_at "ev"); (case k3 => exact rfl))
  | ((with_reducible refine' eg_tup ?k1 ?k2); (case k1 => walk_at "av"); (case k2 => exact le1000 rfl))
  | ((with_reducible refine' eg_lst ?k1 ?k2); (case k1 => walk_at "av"); (case k2 => exact le1000 rfl))
  | ((with_reducible refine' eg_isN ?k1 ?k2); (case k1 => walk_at "ev"); (case k2 => exact rfl))
  | ((with_reducible refine' eg_notN ?k1 ?k2); (case k1 => walk_at "ev"); (case k2 => exact rfl))
  | ((with_reducible refine' eg_eqI ?k1 ?k2); (case k1 => walk_at "ev"); (case k2 => walk_at "ev"))
  | ((with_reducible refine' eg_eqStr ?k1 ?k2); (case k1 => walk_at "ev"); (case k2 => walk_at "ev"))
  | assumption)
local macro_rules | `(tactic| walk_at "av") => `(tactic| first
  | with_reducible exact ag_nil
  | ((with_reducible refine' ag_cons ?k1 ?k2); (case k1 => walk_at "ev"); (case k2 => walk_at "av")))
local macro_rules | `(tactic| walk_at "tv") => `(tactic| first
  | ((with_reducible refine' tg_test ?k1); (case k1 => walk_at "ev"))
  | ((with_reducible refine' tg_B ?k1); (case k1 => walk_at "ev"))
  | ((with_reducible refine' tg_not ?k1); (case k1 => walk_at "tv")))
local macro_rules | `(tactic| walk_at "nm") => `(tactic| first | dsimp only [cxOf] | skip)

section
variable {B : Bs} {mg : Str → Option Value} {base : Heap}
section
variable {p : Addr} {ι : Type} {J : ι → Hp → Prop} {Γ : Gm} {m : ι} {te tb : TE} {ta : TA} {d : D}
theorem ai_consP (hJ : Stb J) (hp : B.pp p) {O : List D → ι → Prop} (h : EG B te Γ d) (k : AI B p J ta Γ m (fun ds m2 => O (d :: ds) m2)) : AI B p J (tCons te ta) Γ m O := ai_cons hp (ei_mono (ei_of hJ h) (by rintro _ _ ⟨rfl, rfl⟩; exact k))
theorem ei_opL (hJ : Stb J) (hp : B.pp p) {r : R2} {O : D → ι → Prop} (h : EG B te Γ d) (k : EI B p J tb Γ m (fun e m2 => ∃ f, OG B r d e f ∧ O f m2)) : EI B p J (tOp r te tb) Γ m O := ei_op hJ hp (ei_mono (ei_of hJ h) (by rintro _ _ ⟨rfl, rfl⟩; exact k))
theorem ei_P (hJ : Stb J) {O : D → ι → Prop} (h : EG B te Γ d) (o : O d m) : EI B p J te Γ m O := ei_mono (ei_of hJ h) (by rintro _ _ ⟨rfl, rfl⟩; exact o)
theorem ai_P (hJ : Stb J) {ds : List D} {O : List D → ι → Prop} (h : AG B ta Γ ds) (o : O ds m) : AI B p J ta Γ m O := fun σ H r j Q q => h σ H r _ fun vs H' e r' => q vs H' ds m (.of e) (hJ _ _ _ e j) r' o
end
theorem si_pj {pp : Addr → Prop} {p : Addr} {t : TS} {Γ : Gm} {n : Nat} {O : OutI Nat → Prop} (h : ∀ x y z : Int, 0 ≤ x → 0 ≤ y → y < 2147483563 → 3 ≤ z → z ≤ (n : Int) + 3 → SI ((B.at pp).op p) p (R ((B.at pp).op p)) (LJ (B.at pp) p) t Γ [.int x, .int y, .int z] (fun o => match o with
    | .nx _ _ => False
    | .rt d ds => ∃ (x y z : Int) (n' : Nat), ds = [.int x, .int y, .int z] ∧ 0 ≤ x ∧ 0 ≤ y ∧ y < 2147483563 ∧ 3 ≤ z ∧ z ≤ (n' : Int) + 3 ∧ O (.rt d n')
    | .bk _ _ => False
    | .ct _ _ => False)) : SI ((B.at pp).op p) p (R ((B.at pp).op p)) (PJ p) t Γ n O := fun σ H E r j nn q b c => by
  obtain ⟨x, y, z, hx, h1, h2, h3, h4, h5⟩ := j
  refine h x y z h1 h2 h3 h4 h5 σ H E r ⟨_, hx, .cons (.int x) (.cons (.int y) (.cons (.int z) .nil))⟩ (fun _ _ _ _ _ _ _ o => o.elim) (fun v H' d ds s j' r' o => ?_) (fun _ _ _ _ _ _ _ o => o.elim) fun _ _ _ _ _ _ _ o => o.elim
  obtain ⟨x', y', z', n', rfl, g1, g2, g3, g4, g5, o⟩ := o
  obtain ⟨xs, hxs, rxs⟩ := j'
  have e := ra_ints (ns := [x', y', z']) rxs
  subst e
  exact q v H' d n' s ⟨x', y', z', hxs, g1, g2, g3, g4, g5⟩ r' o
def PuSp : L2.Sp := fun vs H Q _ => ∃ c : Int, vs = [.int c] ∧ ∀ p H', H p = none → Same H H' → PJ p 0 H' → Q (.ref p) H'
theorem ok_law_purse (T : Txt B.K mg) : FnOk B.P B.w B.K mg base CX0 1 T.law_purse.f T.law_purse.d p_law_purse PuSp := by
  refine T.law_purse.F.ok sc_law_purse (fun vs H Q E h => by obtain ⟨_, rfl, _⟩ := h; rfl) fun cdv A outer s H vs Q E hr hs => ⟨_, (pss_one (ps_ret (pe_lst (pa_cons (pe_op op_mulA (pe_callB call_abs (by rfl) T.m_abs (by decide +kernel) (pa_cons (pv 0) pa_nil)) (pe_callTy call_int1 (by rfl) T.m_int (by decide +kernel) (pa_cons (pe_cmpR op_ge (pe_callB call_abs (by rfl) T.m_abs (by decide +kernel) (pa_cons (pv 0) pa_nil)) (pe_op op_pow pe_int pe_int) (nomark _)) pa_nil))) (pa_cons (pe_op op_mod (pe_callTy call_int1 (by rfl) T.m_int (by decide +kernel) (pa_cons (pv 0) pa_nil)) pe_int) (pa_cons pe_int pa_nil)))))), ?_⟩
  obtain ⟨c, rfl, q⟩ := hs
  have r0 : Rep (B.at fun _ => False) H (L2.start n_law_purse [.int c]) [some (.int c)] := rep_start (ds := [.int c]) (fun _ h => h.elim) (.cons (.int c) .nil)
  dsimp only [tRet]
  have ha : AG (B.at fun _ => False) _ [some (.int c)] _ := ag_cons (eg_mul (eg_bi (ag_cons (eg_var (i := 0) (d := .int c) rfl) ag_nil) cg_abs) (eg_bi (ag_cons (eg_ge (i := (c.natAbs : Int)) (eg_bi (ag_cons (eg_var (i := 0) (d := .int c) rfl) ag_nil) cg_abs) (eg_pow (i := 10) (j := 18) eg_int eg_int ⟨by decide, by decide, by decide⟩)) ag_nil) cg_intB) (.inl (.inr (by split <;> exact ⟨by decide, by decide⟩)))) (ag_cons (eg_mod (eg_bi (ag_cons (eg_var (i := 0) (d := .int c) rfl) ag_nil) cg_int) (eg_int (i := 2147483563)) (by decide)) (ag_cons (eg_int (i := 3)) ag_nil))
  refine ha _ H r0 _ fun vs H1 e1 r1 => ⟨by rw [r1.length, sizeLine_eq]; show 3 ≤ _; omega, fun p hp => ?_⟩
  have e := ra_ints (ns := [_, _, 3]) r1
  subst e
  have hp0 : H p = none := by
    cases z : H p with
    | none => rfl
    | some u => rw [e1 _ _ z] at hp; cases hp
  refine q p _ hp0 (e1.trans (same_new hp)) ⟨_, _, _, upd_same, ?_, Int.emod_nonneg _ (by decide), Int.emod_lt_of_pos _ (by decide), by omega, by omega⟩
  refine Int.mul_nonneg (by omega) ?_
  split <;> omega
def S_coin (ds : List D) (k : Nat) (Po : D → Prop) : Prop := ∃ m : Nat, ds = [.int (m : Nat)] ∧ 1 ≤ m ∧ m ≤ 1000000 ∧ k = 1 ∧ Po = fun d => ∃ r : Nat, d = .int (r : Nat) ∧ r < m
theorem ok_law_coin (T : Txt B.K mg) : FnOk B.P B.w B.K mg base CX0 1 T.law_coin.f T.law_coin.d p_law_coin (ESp B.P B.w B.K S_coin) := by
  refine fn_draw T.law_coin.F sc_law_coin (fun ds k Po h => by obtain ⟨_, rfl, _⟩ := h; rfl) fun pp p cdv A outer s H E ds n j Po hn hr hS hk => ⟨_, (pss_cons (ps_if (pt_cmpR op_gt (pe_ix (k_ix (K := B.K) rfl) (pv 0) pe_int (fun _ _ => rfl)) pe_int (nomark _)) (pss_cons (ps_set (i := 2) sc_law_coin.nd rfl (Or.inl rfl) (pe_op op_mod (pe_callTy call_int1 (by rfl) T.m_int (by decide +kernel) (pa_cons (pe_ix (k_ix (K := B.K) rfl) (pv 0) pe_int (fun _ _ => rfl)) pa_nil)) (pv 1))) (pss_cons (ps_asg (pe_op op_fdivW (pe_ix (k_ix (K := B.K) rfl) (pv 0) pe_int (fun _ _ => rfl)) (pv 1)) (pg_sub (pv 0) pe_int set_list)) (pss_one (ps_ret (pv 2))))) pss_nil) (pss_cons (ps_asg (pe_op (k_add (K := B.K) rfl) (pe_ix (k_ix (K := B.K) rfl) (pv 0) pe_int (fun _ _ => rfl)) pe_int) (pg_sub (pv 0) pe_int set_list)) (pss_cons (ps_set (i := 3) sc_law_coin.nd rfl (Or.inl rfl) (pe_op op_mod (pe_callTy call_int1 (by rfl) T.m_int (by decide +kernel) (pa_cons (pe_op op_pow (pe_op (k_add (K := B.K) rfl) (pe_op (k_add (K := B.K) rfl) (pe_ix (k_ix (K := B.K) rfl) (pv 0) pe_int (fun _ _ => rfl)) (pe_op op_mulA pe_int (pe_ix (k_ix (K := B.K) rfl) (pv 0) pe_int (fun _ _ => rfl)))) pe_int) pe_int) pa_nil)) pe_int)) (pss_cons (ps_set (i := 3) sc_law_coin.nd rfl (Or.inl rfl) (pe_op op_mod (pe_callTy call_int1 (by rfl) T.m_int (by decide +kernel) (pa_cons (pe_op op_mulA (pe_op (k_add (K := B.K) rfl) (pv 3) (pe_op op_mulA pe_int (pe_ix (k_ix (K := B.K) rfl) (pv 0) pe_int (fun _ _ => rfl)))) (pe_op (k_add (K := B.K) rfl) (pe_op op_fdivW (pv 3) pe_int) pe_int)) pa_nil)) pe_int)) (pss_one (ps_ret (pe_op op_mod (pe_callTy call_int1 (by rfl) T.m_int (by decide +kernel) (pa_cons (pe_op op_fdivW (pe_op op_mod (pe_callTy call_int1 (by rfl) T.m_int (by decide +kernel) (pa_cons (pe_op op_mulA (pv 3) (pe_op (k_add (K := B.K) rfl) (pe_op op_fdivW (pv 3) pe_int) pe_int)) pa_nil)) pe_int) pe_int) pa_nil)) (pv 1)))))))), ?_⟩
  obtain ⟨m, rfl, h1, h2, rfl, rfl⟩ := hS
  have hm : (0 : Int) < (m : Nat) := by omega
  have hmod : ∀ i : Int, ∃ r : Nat, D.int (i % (m : Nat)) = .int (r : Nat) ∧ r < m := fun i => by
    have g1 := Int.emod_nonneg i (by omega : ((m : Nat) : Int) ≠ 0)
    have g2 := Int.emod_lt_of_pos i hm
    exact ⟨(i % (m : Nat)).toNat, by congr 1; omega, by omega⟩
  refine si_pj fun x y z hx hy hy2 hz hz2 => ?_
  have hR : ∀ (H : Hp) (v : L2.V) (d : D), R ((B.at pp).op p) H v d → R ((B.at pp).op p) H v d := fun _ _ _ r => r
  have hd : ∀ i : Int, CDivW i (m : Nat) := fun i => ⟨hm, by
    have : (m : Int).natAbs = m := Int.natAbs_natCast m
    rw [this]
    have h3 : m.log2 < 20 := (Nat.log2_lt (by omega)).mpr (by omega)
    omega⟩
  refine si_seq (si_ifJ lj_stb (tj_test (ej_op lj_stb (ej_own (k := x) hn rfl rfl) (ej_of eg_int) og_gt)) (fun h => ?_) fun h => si_sg lj_stb hR (sg_next ?_))
  · refine si_seq (si_asgJ lj_stb op_pp (d := .int (x % (m : Nat))) (ej_op lj_stb (ej_bi (aj_cons lj_stb (ej_own (k := x) hn rfl rfl) aj_nil) cg_int) (ej_of (by walk_at "ev")) (og_mod hm)) ?_)
    refine si_seq (si_setL (d := .int (x / (m : Nat))) (n := 0) rfl (ej_op lj_stb (ej_own (k := x) hn rfl rfl) (ej_of (by walk_at "ev")) (og_fdiv (hd x))) rfl ?_)
    refine si_retJ lj_stb hR (ej_of (by walk_at "ev")) ⟨x / (m : Nat), y, z, n, rfl, Int.ediv_nonneg hx (by omega), hy, hy2, hz, hz2, by omega, hmod x⟩
  · dsimp only [liftO, thenI]
    refine si_seq (si_setL (d := .int (z + 1)) (n := 2) rfl (ej_op lj_stb (ej_own (k := z) hn rfl rfl) (ej_of eg_int) og_add) rfl ?_)
    dsimp only [liftO, thenI, List.set]
    generalize hz3 : z + 1 = z'
    have hz4 : 3 ≤ z' ∧ z' ≤ ((n + 1 : Nat) : Int) + 3 := by omega
    have hp1 : CPow (y + 70001 * z' + 7) 3 := ⟨by decide, by decide, by omega⟩
    refine si_seq (si_asgJ lj_stb op_pp (d := .int ((y + 70001 * z' + 7) ^ (3 : Int).toNat % 2147483587)) ?_ ?_)
    · refine ej_op lj_stb (d := .int ((y + 70001 * z' + 7) ^ (3 : Int).toNat)) (e := .int 2147483587) ?_ (ej_of eg_int) (og_mod (by decide))
      refine ej_bi (ds := [.int ((y + 70001 * z' + 7) ^ (3 : Int).toNat)]) (aj_cons lj_stb ?_ aj_nil) cg_int
      refine ej_op lj_stb (d := .int (y + 70001 * z' + 7)) (e := .int 3) ?_ (ej_of eg_int) (og_pow hp1)
      refine ej_op lj_stb (d := .int (y + 70001 * z')) (e := .int 7) ?_ (ej_of eg_int) og_add
      refine ej_op lj_stb (d := .int y) (e := .int (70001 * z')) (ej_own (k := y) hn rfl rfl) ?_ og_add
      exact ej_op lj_stb (d := .int 70001) (e := .int z') (ej_of eg_int) (ej_own (k := z') hn rfl rfl) (og_mul (.inl (.inl (by decide))))
    generalize hh1 : (y + 70001 * z' + 7) ^ (3 : Int).toNat % 2147483587 = u
    have u1 : 0 ≤ u := by rw [← hh1]; exact Int.emod_nonneg _ (by decide)
    have u2 : u < 2147483587 := by rw [← hh1]; exact Int.emod_lt_of_pos _ (by decide)
    dsimp only [liftO, thenI]
    refine si_seq (si_asgJ lj_stb op_pp (d := .int (((u + 11 * z') * (u / 1009 + 48611)) % 2147483549)) ?_ ?_)
    · refine ej_op lj_stb (d := .int ((u + 11 * z') * (u / 1009 + 48611))) (e := .int 2147483549) ?_ (ej_of eg_int) (og_mod (by decide))
      refine ej_bi (ds := [.int ((u + 11 * z') * (u / 1009 + 48611))]) (aj_cons lj_stb ?_ aj_nil) cg_int
      refine ej_op lj_stb (d := .int (u + 11 * z')) (e := .int (u / 1009 + 48611)) ?_ ?_ (og_mul (.inl (.inr ⟨by omega, by omega⟩)))
      · refine ej_op lj_stb (d := .int u) (e := .int (11 * z')) (ej_of (by walk_at "ev")) ?_ og_add
        exact ej_op lj_stb (d := .int 11) (e := .int z') (ej_of eg_int) (ej_own (k := z') hn rfl rfl) (og_mul (.inl (.inl (by decide))))
      · refine ej_op lj_stb (d := .int (u / 1009)) (e := .int 48611) ?_ (ej_of eg_int) og_add
        exact ej_op lj_stb (d := .int u) (e := .int 1009) (ej_of (by walk_at "ev")) (ej_of eg_int) (og_fdiv ⟨by decide, by decide +kernel⟩)
    generalize hh2 : ((u + 11 * z') * (u / 1009 + 48611)) % 2147483549 = w
    have w1 : 0 ≤ w := by rw [← hh2]; exact Int.emod_nonneg _ (by decide)
    have w2 : w < 2147483549 := by rw [← hh2]; exact Int.emod_lt_of_pos _ (by decide)
    dsimp only [liftO, thenI]
    refine si_retJ lj_stb hR (d := .int ((w * (w / 2027 + 69621)) % 2147483543 / 5 % (m : Nat))) ?_ ⟨x, y, z', n + 1, rfl, hx, hy, hy2, hz4.1, hz4.2, by omega, hmod _⟩
    refine ej_op lj_stb (d := .int ((w * (w / 2027 + 69621)) % 2147483543 / 5)) (e := .int (m : Nat)) ?_ (ej_of (by walk_at "ev")) (og_mod hm)
    refine ej_bi (ds := [.int ((w * (w / 2027 + 69621)) % 2147483543 / 5)]) (aj_cons lj_stb ?_ aj_nil) cg_int
    refine ej_op lj_stb (d := .int ((w * (w / 2027 + 69621)) % 2147483543)) (e := .int 5) ?_ (ej_of eg_int) (og_fdiv ⟨by decide, by decide +kernel⟩)
    refine ej_op lj_stb (d := .int (w * (w / 2027 + 69621))) (e := .int 2147483543) ?_ (ej_of eg_int) (og_mod (by decide))
    refine ej_bi (ds := [.int (w * (w / 2027 + 69621))]) (aj_cons lj_stb ?_ aj_nil) cg_int
    refine ej_op lj_stb (d := .int w) (e := .int (w / 2027 + 69621)) (ej_of (by walk_at "ev")) ?_ (og_mul (.inl (.inr ⟨by omega, by omega⟩)))
    refine ej_op lj_stb (d := .int (w / 2027)) (e := .int 69621) ?_ (ej_of eg_int) og_add
    exact ej_op lj_stb (d := .int w) (e := .int 2027) (ej_of (by walk_at "ev")) (ej_of eg_int) (og_fdiv ⟨by decide, by decide +kernel⟩)
def S_pick (ds : List D) (k : Nat) (Po : D → Prop) : Prop := ∃ es : List D, ds = [.lst es] ∧ es ≠ [] ∧ es.length ≤ 1000 ∧ k = 1 ∧ Po = fun d => d ∈ es
theorem ok_law_pick (T : Txt B.K mg) : FnOk B.P B.w B.K mg base CX0 2 T.law_pick.f T.law_pick.d p_law_pick (ESp B.P B.w B.K S_pick) := by
  have G_law_coin := ok_law_coin (base := base) T
  refine fn_draw T.law_pick.F sc_law_pick (fun ds k Po h => by obtain ⟨_, rfl, _⟩ := h; rfl) fun pp p cdv A outer s H E ds n j Po hn hr hS hk => ⟨_, (pss_one (ps_ret (pe_ix (k_ix (K := B.K) rfl) (pv 1) (pe_call G_law_coin (hr.mono (by decide)) (by rfl) T.law_coin.g T.law_coin.F.kp T.law_coin.b .nil pass0 (pa_cons (pv 0) (pa_cons (pe_callB (k_len (K := B.K) rfl) (by rfl) T.m_len (by decide +kernel) (pa_cons (pv 1) pa_nil)) pa_nil))) (fun _ _ => rfl)))), ?_⟩
  obtain ⟨es, rfl, h1, h2, rfl, rfl⟩ := hS
  have hl : 1 ≤ es.length := by
    cases es with
    | nil => exact absurd rfl h1
    | cons e es => exact Nat.le_add_left 1 es.length
  refine si_ret (fun _ _ _ r => r) (ei_opL pj_stb op_pp (d := .lst es) (eg_var rfl) (ei_draw (B := B.at pp) hn rfl (ai_P pj_stb (ds := [.int (es.length : Nat)]) (ag_cons (eg_bi (ag_cons (d := .lst es) (eg_var rfl) ag_nil) cg_lenL) ag_nil) ⟨1, _, ⟨es.length, rfl, hl, by omega, rfl, rfl⟩, hk, fun d n' hd hn' => ?_⟩)))
  obtain ⟨r, rfl, hr2⟩ := hd
  exact ⟨es[r], og_ixL2 (at_nat (List.getElem?_eq_getElem hr2)), hn', List.getElem_mem hr2⟩
def S_odds (ds : List D) (k : Nat) (Po : D → Prop) : Prop := ds = [] ∧ k = 2 ∧ Po = fun d => ∃ q : Rat, ChR q ∧ d = fr q
theorem od_fr {a b : Nat} (h : (a, b) ∈ [(1, 2), (1, 4), (1, 3), (2, 3), (999, 1000), (1, 7), (2, 7), (3, 7), (4, 7), (5, 7), (6, 7)]) : ∃ q : Rat, ChR q ∧ D.tup [.int (a : Nat), .int (b : Nat)] = fr q := by
  obtain ⟨h1, h2, h3⟩ := od_ok (a, b) h
  refine ⟨od a b, h1, ?_⟩
  unfold fr
  rw [h2, h3]
theorem ok_law_odds (T : Txt B.K mg) : FnOk B.P B.w B.K mg base CX0 3 T.law_odds.f T.law_odds.d p_law_odds (ESp B.P B.w B.K S_odds) := by
  have G_law_coin := ok_law_coin (base := base) T
  have G_law_pick := ok_law_pick (base := base) T
  refine fn_draw T.law_odds.F sc_law_odds (fun ds k Po h => by obtain ⟨rfl, _⟩ := h; rfl) fun pp p cdv A outer s H E ds n j Po hn hr hS hk => ⟨_, (pss_one (ps_ret (pe_call G_law_pick (hr.mono (by decide)) (by rfl) T.law_pick.g T.law_pick.F.kp T.law_pick.b .nil pass0 (pa_cons (pv 0) (pa_cons (pe_lst (pa_cons (pe_tupF (pa_cons pe_int (pa_cons pe_int pa_nil))) (pa_cons (pe_tupF (pa_cons pe_int (pa_cons pe_int pa_nil))) (pa_cons (pe_tupF (pa_cons pe_int (pa_cons pe_int pa_nil))) (pa_cons (pe_tupF (pa_cons pe_int (pa_cons pe_int pa_nil))) (pa_cons (pe_tupF (pa_cons pe_int (pa_cons pe_int pa_nil))) (pa_cons (pe_tupF (pa_cons (pe_op (k_add (K := B.K) rfl) pe_int (pe_call G_law_coin (hr.mono (by decide)) (by rfl) T.law_coin.g T.law_coin.F.kp T.law_coin.b .nil pass0 (pa_cons (pv 0) (pa_cons pe_int pa_nil)))) (pa_cons pe_int pa_nil))) pa_nil))))))) pa_nil))))), ?_⟩
  obtain ⟨rfl, rfl, rfl⟩ := hS
  refine si_ret (fun _ _ _ r => r) (ei_draw (B := B.at pp) hn rfl (ai_cons op_pp (ei_lst pj_stb op_pp (ai_consP pj_stb op_pp (by walk_at "ev") (ai_consP pj_stb op_pp (by walk_at "ev") (ai_consP pj_stb op_pp (by walk_at "ev") (ai_consP pj_stb op_pp (by walk_at "ev") (ai_consP pj_stb op_pp (by walk_at "ev") (ai_cons op_pp (ei_tup pj_stb op_pp (ai_cons op_pp (ei_opL pj_stb op_pp (d := .int 1) eg_int (ei_draw (B := B.at pp) hn rfl (ai_P pj_stb (ds := [.int ((6 : Nat) : Int)]) (ag_cons eg_int ag_nil) ⟨1, _, ⟨6, rfl, by omega, by omega, rfl, rfl⟩, by omega, fun d n' hd hn' => ?_⟩))))))))))))))
  obtain ⟨r, rfl, hr2⟩ := hd
  refine ⟨.int (1 + (r : Int)), og_add, ai_P pj_stb (ds := [.int 7]) (ag_cons eg_int ag_nil) ⟨le1000 rfl, ai_nil ⟨le1000 rfl, ai_nil ⟨1, _, ⟨_, rfl, List.cons_ne_nil _ _, le1000 rfl, rfl, rfl⟩, by omega, fun d n2 hd hn2 => ⟨by omega, ?_⟩⟩⟩⟩⟩
  rcases List.mem_cons.mp hd with rfl | hd
  · exact od_fr (a := 1) (b := 2) (by decide)
  rcases List.mem_cons.mp hd with rfl | hd
  · exact od_fr (a := 1) (b := 4) (by decide)
  rcases List.mem_cons.mp hd with rfl | hd
  · exact od_fr (a := 1) (b := 3) (by decide)
  rcases List.mem_cons.mp hd with rfl | hd
  · exact od_fr (a := 2) (b := 3) (by decide)
  rcases List.mem_cons.mp hd with rfl | hd
  · exact od_fr (a := 999) (b := 1000) (by decide)
  rcases List.mem_cons.mp hd with rfl | hd
  · have e : (1 : Int) + (r : Int) = ((r + 1 : Nat) : Int) := by omega
    rw [e]
    have hc : r = 0 ∨ r = 1 ∨ r = 2 ∨ r = 3 ∨ r = 4 ∨ r = 5 := by omega
    rcases hc with rfl | rfl | rfl | rfl | rfl | rfl
    · exact od_fr (a := 1) (b := 7) (by decide)
    · exact od_fr (a := 2) (b := 7) (by decide)
    · exact od_fr (a := 3) (b := 7) (by decide)
    · exact od_fr (a := 4) (b := 7) (by decide)
    · exact od_fr (a := 5) (b := 7) (by decide)
    · exact od_fr (a := 6) (b := 7) (by decide)
  · cases hd
end
end Tl
end
section
set_option Elab.async false
set_option linter.all false
set_option maxRecDepth 100000
set_option maxHeartbeats 2000000
set_option autoImplicit false
set_option exponentiation.threshold 10000

/-! Three questions of the law: with one key and many deeds; beyond the rule's number; the mean of a plan. -/
namespace Tl
open PySem PySem.Spec PyProof.Rows L2
local macro_rules | `(tactic| walk_at "ev") => `(tactic| first
  | ((with_reducible refine' eg_var ?k1); (case k1 => exact rfl))
  | with_reducible exact eg_int
  | with_reducible exact eg_str
  | with_reducible exact eg_bl
  | with_reducible exact eg_non
  | ((with_reducible refine' eg_sub ?k1 ?k2); (case k1 => walk_at "ev"); (case k2 => walk_at "ev"))
  | ((with_reducible refine' eg_add ?k1 ?k2); (case k1 => walk_at "ev"); (case k2 => walk_at "ev"))
  | ((with_reducible refine' eg_lt ?k1 ?k2); (case k1 => walk_at "ev"); (case k2 => walk_at "ev"))
  | ((with_reducible refine' eg_le ?k1 ?k2); (case k1 => walk_at "ev"); (case k2 => walk_at "ev"))
  | ((with_reducible refine' eg_gt ?k1 ?k2); (case k1 => walk_at "ev"); (case k2 => walk_at "ev"))
  | ((with_reducible refine' eg_ge ?k1 ?k2); (case k1 => walk_at "ev"); (case k2 => walk_at "ev"))
  | ((with_reducible refine' eg_neg ?k1); (case k1 => walk_at "ev"))
  | ((with_reducible refine' eg_ixT ?k1 ?k2 ?k3); (case k1 => walk_at "ev"); (case k2 => walk_at "ev"); (case k3 => exact rfl))
  | ((with_reducible refine' eg_ixL ?k1 ?k2 ?k3); (case k1 => walk_at "ev"); (case k2 => walk_at "ev"); (case k3 => exact rfl))
  | ((with_reducible refine' eg_tup ?k1 ?k2); (case k1 => walk_at "av"); (case k2 => exact le1000 rfl))
  | ((with_reducible refine' eg_lst ?k1 ?k2); (case k1 => walk_at "av"); (case k2 => exact le1000 rfl))
  | ((with_reducible refine' eg_isN ?k1 ?k2); (case k1 => walk_at "ev"); (case k2 => exact rfl))
  | ((with_reducible refine' eg_notN ?k1 ?k2); (case k1 => walk_at "ev"); (case k2 => exact rfl))
  | ((with_reducible refine' eg_eqI ?k1 ?k2); (case k1 => walk_at "ev"); (case k2 => walk_at "ev"))
  | ((with_reducible refine' eg_eqStr ?k1 ?k2); (case k1 => walk_at "ev"); (case k2 => walk_at "ev"))
  | assumption)
local macro_rules | `(tactic| walk_at "av") => `(tactic| first
  | with_reducible exact ag_nil
  | ((with_reducible refine' ag_cons ?k1 ?k2); (case k1 => walk_at "ev"); (case k2 => walk_at "av")))
local macro_rules | `(tactic| walk_at "tv") => `(tactic| first
  | ((with_reducible refine' tg_test ?k1); (case k1 => walk_at "ev"))
  | ((with_reducible refine' tg_B ?k1); (case k1 => walk_at "ev"))
  | ((with_reducible refine' tg_not ?k1); (case k1 => walk_at "tv")))
local macro_rules | `(tactic| walk_at "nm") => `(tactic| first | dsimp only [cxOf] | skip)

section
variable {B : Bs} {mg : Str → Option Value} {base : Heap}
theorem odD_k (o : Option Deed) : sk (odD o) = true ∧ kb (odD o) = true := by
  cases o with
  | none => exact ⟨rfl, rfl⟩
  | some d =>
    obtain ⟨w, k⟩ := d
    refine ⟨?_, rfl⟩
    cases w
    · show sk (.tup [.str "remove", .int k]) = true
      rw [sk, sks, sk, sks, sk, sks]
      decide +kernel
    · show sk (.tup [.str "insert", .int k]) = true
      rw [sk, sks, sk, sks, sk, sks]
      decide +kernel
theorem vlD_k (x : Rat × Option Deed) : sk (vlD x) = true ∧ dp (vlD x) := by
  constructor
  · unfold vlD
    rw [sk, sks, sks, sks, (fr_k x.1).1, (odD_k x.2).1]
    rfl
  · obtain ⟨q, o⟩ := x
    cases o with
    | none => show 2 ≤ 64; decide
    | some d => show 2 ≤ 64; decide
theorem manp : ManOk "plain" ∧ ManOk "early" ∧ ManOk "lean" ∧ ManOk "sharp" := by
  unfold ManOk
  decide +kernel
theorem wk0 : Wk 2 [] := ⟨List.Pairwise.nil, fun q h => absurd h List.not_mem_nil, by decide⟩
theorem wk1 {k h : Int} (h1 : 1 ≤ h) (h3 : h ≤ 3) : Wk 2 [(k, h)] := ⟨List.pairwise_singleton _ _, fun q hq => by rw [List.mem_singleton.mp hq]; exact ⟨h1, h3⟩, by show 1 ≤ 2; decide⟩
def S_long (ds : List D) (k : Nat) (Po : D → Prop) : Prop := ds = [] ∧ k = 5 ∧ Po = fun d => d = .bl true
theorem ok_law_long_right (T : Txt B.K mg) : FnOk B.P B.w B.K mg base CX0 19 T.law_long_right.f T.law_long_right.d p_law_long_right (ESp B.P B.w B.K S_long) := by
  have G_law_odds := ok_law_odds (base := base) T
  have G_law_pick := ok_law_pick (base := base) T
  have G_law_coin := ok_law_coin (base := base) T
  have G_law_value := ok_law_value (base := base) T 9
  have G_looker := ok_looker (base := base) T
  refine fn_draw T.law_long_right.F sc_law_long_right (fun ds k Po h => by obtain ⟨rfl, _⟩ := h; rfl) fun pp p cdv A outer s H E ds n j Po hn hr hS hk => ⟨_, (pss_cons (ps_par3 (i := 1) (j := 2) (l := 3) rfl sc_law_long_right.nd rfl rfl rfl (by decide) (by decide) (by decide) rfl rfl rfl (pa_cons (pe_call G_law_odds (hr.mono (by decide)) (by rfl) T.law_odds.g T.law_odds.F.kp T.law_odds.b .nil pass0 (pa_cons (pv 0) pa_nil)) (pa_cons (pe_call G_law_pick (hr.mono (by decide)) (by rfl) T.law_pick.g T.law_pick.F.kp T.law_pick.b .nil pass0 (pa_cons (pv 0) (pa_cons (pe_lst (pa_cons pe_str (pa_cons pe_str pa_nil))) pa_nil))) (pa_cons (pe_op (k_add (K := B.K) rfl) pe_int (pe_call G_law_coin (hr.mono (by decide)) (by rfl) T.law_coin.g T.law_coin.F.kp T.law_coin.b .nil pass0 (pa_cons (pv 0) (pa_cons pe_int pa_nil)))) pa_nil))) (by rfl)) (pss_cons (ps_set (i := 4) sc_law_long_right.nd rfl (Or.inl rfl) (pe_call G_law_pick (hr.mono (by decide)) (by rfl) T.law_pick.g T.law_pick.F.kp T.law_pick.b .nil pass0 (pa_cons (pv 0) (pa_cons (pe_lst (pa_cons (pe_tupF pa_nil) (pa_cons (pe_tupF (pa_cons (pe_tupF (pa_cons pe_int (pa_cons pe_int pa_nil))) pa_nil)) (pa_cons (pe_tupF (pa_cons (pe_tupF (pa_cons pe_int (pa_cons pe_int pa_nil))) pa_nil)) (pa_cons (pe_tupF (pa_cons (pe_tupF (pa_cons pe_int (pa_cons pe_int pa_nil))) pa_nil)) pa_nil))))) pa_nil)))) (pss_cons (ps_set (i := 5) sc_law_long_right.nd rfl (Or.inl rfl) (pe_call G_law_value (hr.mono (by decide)) (by rfl) T.law_value.g T.law_value.F.kp T.law_value.b .nil pass0 (pa_cons (pv 4) (pa_cons (pe_lst (pa_cons pe_int pa_nil)) (pa_cons (pv 3) (pa_cons pe_int (pa_cons (pv 2) (pa_cons (pv 1) (pa_cons (pe_tupF (pa_cons pe_str (pa_cons pe_int pa_nil))) pa_nil))))))))) (pss_one (ps_ret (pe_cmpR (k_eq (K := B.K) rfl hr.units) (pe_call G_looker (hr.mono (by decide)) (by rfl) T.looker.g T.looker.F.kp T.looker.b .nil pass0 (pa_cons (pv 4) (pa_cons (pe_lst (pa_cons pe_int pa_nil)) (pa_cons (pv 3) (pa_cons pe_int (pa_cons (pv 2) (pa_cons (pv 1) (pa_cons (pe_lst (pa_cons pe_str (pa_cons pe_int pa_nil))) pa_nil)))))))) (pv 5) (nomark _))))))), ?_⟩
  obtain ⟨rfl, rfl, rfl⟩ := hS
  have hR : ∀ (H : Hp) (v : L2.V) (d : D), R ((B.at pp).op p) H v d → R ((B.at pp).op p) H v d := fun _ _ _ r => r
  refine si_seq (si_par3 op_pp (ai_cons op_pp (ei_draw (B := B.at pp) hn rfl (ai_nil ⟨2, _, ⟨rfl, rfl, rfl⟩, by omega, fun d n1 hd hn1 => ?_⟩))))
  obtain ⟨q, hq, rfl⟩ := hd
  refine ai_cons op_pp (ei_draw (B := B.at pp) hn rfl (ai_P pj_stb (ds := [.lst [.str "plain", .str "early"]]) (by walk_at "av") ⟨1, _, ⟨_, rfl, List.cons_ne_nil _ _, le1000 rfl, rfl, rfl⟩, by omega, fun d n2 hd hn2 => ?_⟩))
  obtain ⟨m, rfl, hm⟩ : ∃ m : Str, d = .str m ∧ ManOk m := by
    rcases List.mem_cons.mp hd with rfl | hd
    · exact ⟨_, rfl, manp.1⟩
    · rw [List.mem_singleton.mp hd]
      exact ⟨_, rfl, manp.2.1⟩
  refine ai_cons op_pp (ei_opL pj_stb op_pp (d := .int 4) eg_int (ei_draw (B := B.at pp) hn rfl (ai_P pj_stb (ds := [.int ((5 : Nat) : Int)]) (ag_cons eg_int ag_nil) ⟨1, _, ⟨5, rfl, by omega, by omega, rfl, rfl⟩, by omega, fun d n3 hd hn3 => ?_⟩)))
  obtain ⟨r, rfl, hr5⟩ := hd
  refine ⟨.int ((4 + r : Nat) : Int), og_is og_add (congrArg D.int (by omega)), ai_nil ⟨_, _, _, rfl, ?_⟩⟩
  dsimp only [thenI]
  refine si_seq (si_asg op_pp (ei_draw (B := B.at pp) hn rfl (ai_P pj_stb (ds := [.lst [.tup [], .tup [.tup [.int 3, .int 1]], .tup [.tup [.int 3, .int 2]], .tup [.tup [.int 5, .int 2]]]]) (by walk_at "av") ⟨1, _, ⟨_, rfl, List.cons_ne_nil _ _, le1000 rfl, rfl, rfl⟩, by omega, fun d n4 hd hn4 => ?_⟩)))
  obtain ⟨Tv, rfl, hw⟩ : ∃ Tv : Tw, d = tw Tv ∧ Wk 2 Tv := by
    rcases List.mem_cons.mp hd with rfl | hd
    · exact ⟨[], rfl, wk0⟩
    rcases List.mem_cons.mp hd with rfl | hd
    · exact ⟨[(3, 1)], rfl, wk1 (by decide) (by decide)⟩
    rcases List.mem_cons.mp hd with rfl | hd
    · exact ⟨[(3, 2)], rfl, wk1 (by decide) (by decide)⟩
    · rw [List.mem_singleton.mp hd]
      exact ⟨[(5, 2)], rfl, wk1 (by decide) (by decide)⟩
  dsimp only [thenI]
  have hv : VOk 2 (4 + r) Tv [3] m q 2 := ⟨hw, by omega, by omega, by decide, hm, hq, by decide, by decide⟩
  refine si_sg pj_stb hR ?_
  refine sg_seq (sg_asg (eg_call (d := vlD (vl (cN 9 m) [3] q true 2 (4 + r) Tv)) (ds := [tw Tv, .lst [.int 3], .int ((4 + r : Nat) : Int), .int 9, .str m, fr q, .tup (rl true 2)]) (ag_cons (by walk_at "ev") (ag_cons (by walk_at "ev") (ag_cons (by walk_at "ev") (ag_cons (by walk_at "ev") (ag_cons (by walk_at "ev") (ag_cons (by walk_at "ev") (ag_cons (eg_is (eg_tup (ag_cons eg_str (ag_cons eg_int ag_nil)) (le1000 rfl)) rfl) ag_nil))))))) ⟨Tv, [3], 4 + r, 9, m, q, true, 2, 2, by omega, rfl, hv, rfl⟩) ?_)
  refine sg_ret (eg_eqK (b := true) (e := vlD (vl (cN 9 m) [3] q true 2 (4 + r) Tv)) (eg_call (d := vlD (vl (cN 9 m) [3] q true 2 (4 + r) Tv)) (ds := [tw Tv, .lst [.int 3], .int ((4 + r : Nat) : Int), .int 9, .str m, fr q, .lst (rl true 2)]) (ag_cons (by walk_at "ev") (ag_cons (by walk_at "ev") (ag_cons (by walk_at "ev") (ag_cons (by walk_at "ev") (ag_cons (by walk_at "ev") (ag_cons (by walk_at "ev") (ag_cons (eg_is (eg_lst (ag_cons eg_str (ag_cons eg_int ag_nil)) (le1000 rfl)) rfl) ag_nil))))))) ⟨Tv, true, false, true, true, [3], 4 + r, 2, 9, m, q, 2, rfl, hv, by decide, by omega, ?_, rfl⟩) (by walk_at "ev") (vlD_k _).1 (vlD_k _).1 (vlD_k _).2 (vlD_k _).2 ⟨fun _ => rfl, fun _ => rfl⟩) ⟨by omega, rfl⟩
  have hc : r = 0 ∨ r = 1 ∨ r = 2 ∨ r = 3 ∨ r = 4 := by omega
  rcases hc with rfl | rfl | rfl | rfl | rfl <;> decide +kernel
end
end Tl
end
section
set_option Elab.async false
set_option linter.all false
set_option maxRecDepth 100000
set_option maxHeartbeats 2000000
set_option autoImplicit false
set_option exponentiation.threshold 10000

/-! The law's questions about drawn towers. -/
namespace Tl
open PySem PySem.Spec PyProof.Rows L2
local macro_rules | `(tactic| walk_at "ev") => `(tactic| first
  | ((with_reducible refine' eg_var ?k1); (case k1 => exact rfl))
  | with_reducible exact eg_int
  | with_reducible exact eg_str
  | with_reducible exact eg_bl
  | with_reducible exact eg_non
  | ((with_reducible refine' eg_sub ?k1 ?k2); (case k1 => walk_at "ev"); (case k2 => walk_at "ev"))
  | ((with_reducible refine' eg_add ?k1 ?k2); (case k1 => walk_at "ev"); (case k2 => walk_at "ev"))
  | ((with_reducible refine' eg_lt ?k1 ?k2); (case k1 => walk_at "ev"); (case k2 => walk_at "ev"))
  | ((with_reducible refine' eg_le ?k1 ?k2); (case k1 => walk_at "ev"); (case k2 => walk_at "ev"))
  | ((with_reducible refine' eg_gt ?k1 ?k2); (case k1 => walk_at "ev"); (case k2 => walk_at "ev"))
  | ((with_reducible refine' eg_ge ?k1 ?k2); (case k1 => walk_at "ev"); (case k2 => walk_at "ev"))
  | ((with_reducible refine' eg_neg ?k1); (case k1 => walk_at "ev"))
  | ((with_reducible refine' eg_ixT ?k1 ?k2 ?k3); (case k1 => walk_at "ev"); (case k2 => walk_at "ev"); (case k3 => exact rfl))
  | ((with_reducible refine' eg_ixL ?k1 ?k2 ?k3); (case k1 => walk_at "ev"); (case k2 => walk_at "ev"); (case k3 => exact rfl))
  | ((with_reducible refine' eg_tup ?k1 ?k2); (case k1 => walk_at "av"); (case k2 => exact le1000 rfl))
  | ((with_reducible refine' eg_lst ?k1 ?k2); (case k1 => walk_at "av"); (case k2 => exact le1000 rfl))
  | ((with_reducible refine' eg_isN ?k1 ?k2); (case k1 => walk_at "ev"); (case k2 => exact rfl))
  | ((with_reducible refine' eg_notN ?k1 ?k2); (case k1 => walk_at "ev"); (case k2 => exact rfl))
  | ((with_reducible refine' eg_eqI ?k1 ?k2); (case k1 => walk_at "ev"); (case k2 => walk_at "ev"))
  | ((with_reducible refine' eg_eqStr ?k1 ?k2); (case k1 => walk_at "ev"); (case k2 => walk_at "ev"))
  | assumption)
local macro_rules | `(tactic| walk_at "av") => `(tactic| first
  | with_reducible exact ag_nil
  | ((with_reducible refine' ag_cons ?k1 ?k2); (case k1 => walk_at "ev"); (case k2 => walk_at "av")))
local macro_rules | `(tactic| walk_at "tv") => `(tactic| first
  | ((with_reducible refine' tg_test ?k1); (case k1 => walk_at "ev"))
  | ((with_reducible refine' tg_B ?k1); (case k1 => walk_at "ev"))
  | ((with_reducible refine' tg_not ?k1); (case k1 => walk_at "tv")))
local macro_rules | `(tactic| walk_at "nm") => `(tactic| first | dsimp only [cxOf] | skip)

section
variable {B : Bs} {mg : Str → Option Value} {base : Heap}
theorem known_wk {T : Tw} {r : Nat} (h : T.map (·.1) = ([2, 6] : List Int).take r) (hh : ∀ q ∈ T, 1 ≤ q.2 ∧ q.2 ≤ 3) : Wk 2 T := by
  refine ⟨?_, hh, ?_⟩
  · unfold Srt1
    rw [h]
    exact List.Pairwise.sublist (List.take_sublist _ _) (by decide)
  · have e := congrArg List.length h
    rw [List.length_map, List.length_take] at e
    have : ([2, 6] : List Int).length = 2 := rfl
    omega
theorem cb_ok : ∀ r, r ≤ 4 → ∀ n, n ≤ 4 → cb r n ≤ 99000 := by
  have h : ∀ r, r < 5 → ∀ n, n < 5 → cb r n ≤ 99000 := by decide +kernel
  exact fun r hr n hn => h r (by omega) n (by omega)
theorem Wk.up {N N' : Nat} {T : Tw} (h : Wk N T) (hn : N ≤ N') : Wk N' T := h.mono hn
/-- known = tuple([(name, 1 + coin(purse, most)) for name in [2, 6][:coin(purse, 3)]]), behind the name i -/
theorem ei_known {pp : Addr → Prop} {p : Addr} {Γ : Gm} {n c i : Nat} {te : TE} {E E2 : XK} {Oe : D → Nat → Prop} (hn : ¬ pp p) (h0 : Γ[0]? = some (some (raw p))) (hi : i ≠ 0) (hi2 : i < Γ.length) (hc1 : 1 ≤ c) (hc3 : c ≤ 3) (hk : n + 3 ≤ 1000000)
    (hte : ∀ x : D, EG ((B.at pp).op p) te ((wipeG Γ [i]).set i (some x)) (.int (c : Nat))) (ho : ∀ (T : Tw) (n' : Nat), Wk 2 T → n' ≤ n + 3 → Oe (.lst (T.map pr)) n') : EI ((B.at pp).op p) p (PJ p) (tLc (iList B.K (tSl (rSlL B.K) (tLst (tCons (tC (.int 2)) (tCons (tC (.int 6)) tNil))) tNoPart (tPart (tCall (ESp B.P B.w B.K S_coin) [] E (tCons (tVar 0) (tCons (tC (.int 3)) tNil)))))) (gName i) tYes (tTupF (tCons (tVar i) (tCons (tOp (rAddA B.K) (tC (.int 1)) (tCall (ESp B.P B.w B.K S_coin) [] E2 (tCons (tVar 0) (tCons te tNil)))) tNil))) [i]) Γ n Oe := by
  refine ei_lcE (js := [i]) pj_stb pj_mv op_pp (fun j hj => hj) (ei_sl pj_stb op_pp (ds := [.int 2, .int 6]) (by walk_at "ev") (ei_draw (B := B.at pp) hn h0 (ai_P pj_stb (ds := [.int ((3 : Nat) : Int)]) (ag_cons eg_int ag_nil) ⟨1, _, ⟨3, rfl, by omega, by omega, rfl, rfl⟩, by omega, fun d n1 hd hn1 => ?_⟩)))
  obtain ⟨r, rfl, hr⟩ := hd
  refine ⟨r, rfl, ([.int 2, .int 6] : List D).take r, fun j ac m' => ∃ T : Tw, ac = T.map pr ∧ T.map (·.1) = (([2, 6] : List Int).take r).take j ∧ (∀ q ∈ T, 1 ≤ q.2 ∧ q.2 ≤ 3) ∧ m' ≤ n + 1 + j, rfl, by rw [List.length_take]; omega, ⟨[], rfl, rfl, fun q hq => absurd hq List.not_mem_nil, hn1⟩, ?_, ?_⟩
  · rintro j x ac m' hj ⟨T, rfl, hT, hh, hm⟩
    have e : ([.int 2, .int 6] : List D).take r = (([2, 6] : List Int).take r).map D.int := by rw [List.map_take]; rfl
    rw [e] at hj
    obtain ⟨k, hk2, rfl⟩ := map_get hj
    have hjl := (List.getElem?_eq_some_iff.mp hk2).1
    rw [List.length_take] at hjl
    have hj2 : ([2, 6] : List Int).length = 2 := rfl
    have hw0 : (wipeG Γ [i])[0]? = some (some (raw p)) := by
      show (Γ.set i none)[0]? = _
      rw [List.getElem?_set_ne hi]
      exact h0
    have hwi : ∀ x : D, ((wipeG Γ [i]).set i (some x))[i]? = some (some x) := fun x => List.getElem?_set_self (by show i < (Γ.set i none).length; rw [List.length_set]; exact hi2)
    have hw1 : ((wipeG Γ [i]).set i (some (.int k)))[0]? = some (some (raw p)) := by
      rw [List.getElem?_set_ne hi]
      exact hw0
    refine ⟨_, gg_name, ei_tup pj_stb op_pp (ai_consP pj_stb op_pp (eg_var (hwi _)) (ai_cons op_pp (ei_opL pj_stb op_pp (d := .int 1) eg_int (ei_draw (B := B.at pp) hn hw1 (ai_P pj_stb (ds := [.int (c : Nat)]) (ag_cons (hte _) ag_nil) ⟨1, _, ⟨c, rfl, hc1, by omega, rfl, rfl⟩, by omega, fun d n1 hd hn1 => ?_⟩)))))⟩
    obtain ⟨r2, rfl, hr2⟩ := hd
    refine ⟨.int (1 + (r2 : Int)), og_add, ai_nil ⟨le1000 rfl, rfl, T ++ [(k, 1 + (r2 : Int))], by rw [List.map_append]; rfl, ?_, fun q hq => ?_, by omega⟩⟩
    · rw [List.map_append, hT, List.take_add_one, hk2]
      rfl
    · rcases List.mem_append.mp hq with hq | hq
      · exact hh q hq
      · rw [List.mem_singleton.mp hq]
        exact ⟨by show 1 ≤ 1 + (r2 : Int); omega, by show 1 + (r2 : Int) ≤ 3; omega⟩
  · rintro ac m' ⟨T, rfl, hT, hh, hm⟩
    have e : (([.int 2, .int 6] : List D).take r).length = (([2, 6] : List Int).take r).length := by rw [List.length_take, List.length_take]; rfl
    rw [e, List.take_length] at hT
    refine ho T m' (known_wk hT hh) ?_
    rw [List.length_take] at hm
    have : ([.int 2, .int 6] : List D).length = 2 := rfl
    omega
def S_beyond (ds : List D) (k : Nat) (Po : D → Prop) : Prop := ds = [] ∧ k = 11 ∧ Po = fun d => d = .bl true
theorem og_ixI {r : Nat} {es : List D} (h : r < es.length) : OG B (rIxA B.K) (.lst es) (.int (r : Nat)) es[r] := og_ixL2 (at_nat (List.getElem?_eq_getElem h))
theorem ok_law_beyond_right (T : Txt B.K mg) : FnOk B.P B.w B.K mg base CX0 19 T.law_beyond_right.f T.law_beyond_right.d p_law_beyond_right (ESp B.P B.w B.K S_beyond) := by
  have G_law_odds := ok_law_odds (base := base) T
  have G_law_pick := ok_law_pick (base := base) T
  have G_law_coin := ok_law_coin (base := base) T
  have G_law_value := ok_law_value (base := base) T 9
  have G_looker := ok_looker (base := base) T
  refine fn_draw T.law_beyond_right.F sc_law_beyond_right (fun ds k Po h => by obtain ⟨rfl, _⟩ := h; rfl) fun pp p cdv A outer s H E ds n j Po hn hr hS hk => ⟨_, (pss_cons (ps_set (i := 1) sc_law_beyond_right.nd rfl (Or.inl rfl) (pe_tupF (pa_cons (pe_call G_law_pick (hr.mono (by decide)) (by rfl) T.law_pick.g T.law_pick.F.kp T.law_pick.b .nil pass0 (pa_cons (pv 0) (pa_cons (pe_lst (pa_cons pe_str (pa_cons pe_str pa_nil))) pa_nil))) (pa_cons (pe_op (k_add (K := B.K) rfl) pe_int (pe_call G_law_coin (hr.mono (by decide)) (by rfl) T.law_coin.g T.law_coin.F.kp T.law_coin.b .nil pass0 (pa_cons (pv 0) (pa_cons pe_int pa_nil)))) pa_nil)))) (pss_cons (ps_set (i := 2) sc_law_beyond_right.nd rfl (Or.inl rfl) (pe_callTy (call_tupF (K := B.K) rfl) (by rfl) T.m_tuple (by decide +kernel) (pa_cons (pe_lc (own := [("_law_name", 9)]) rfl sc_law_beyond_right.nd (k_list (K := B.K) rfl (pe_slice (k_sl (K := B.K) rfl) (pe_lst (pa_cons pe_int (pa_cons pe_int pa_nil))) po_none (po_some (pe_call G_law_coin (hr.mono (by decide)) (by rfl) T.law_coin.g T.law_coin.F.kp T.law_coin.b .nil pass0 (pa_cons (pv 0) (pa_cons pe_int pa_nil)))))) (blkOk_by (own := [("_law_name", 9)]) (N := n_law_beyond_right) (sc := defScope s_law_beyond_right) (by decide +kernel)) (fun _ _ _ _ _ => (pg_name (i := 9) sc_law_beyond_right.nd rfl (Or.inl rfl))) (fun _ _ _ _ _ => pts_nil) (fun _ _ _ _ _ => (pe_tupF (pa_cons (pv 9) (pa_cons (pe_op (k_add (K := B.K) rfl) pe_int (pe_call G_law_coin (hr.mono (by decide)) (by rfl) T.law_coin.g T.law_coin.F.kp T.law_coin.b .nil pass0 (pa_cons (pv 0) (pa_cons pe_int pa_nil)))) pa_nil))))) pa_nil))) (pss_cons (ps_par (i := 3) (j := 4) rfl sc_law_beyond_right.nd rfl rfl (by decide) rfl rfl (pa_cons (pe_call G_law_pick (hr.mono (by decide)) (by rfl) T.law_pick.g T.law_pick.F.kp T.law_pick.b .nil pass0 (pa_cons (pv 0) (pa_cons (pe_lst (pa_cons (pe_lst (pa_cons pe_int (pa_cons pe_int (pa_cons pe_int (pa_cons pe_int pa_nil))))) (pa_cons (pe_lst (pa_cons pe_int (pa_cons pe_int (pa_cons pe_int (pa_cons pe_int pa_nil))))) pa_nil))) pa_nil))) (pa_cons (pe_call G_law_coin (hr.mono (by decide)) (by rfl) T.law_coin.g T.law_coin.F.kp T.law_coin.b .nil pass0 (pa_cons (pv 0) (pa_cons (pe_ifExp (pt_cmpR (k_eq (K := B.K) rfl hr.units) (pe_ix (k_ix (K := B.K) rfl) (pv 1) pe_int (fun _ _ => rfl)) pe_int (nomark _)) pe_int pe_int) pa_nil))) pa_nil)) (by rfl)) (pss_cons (ps_par3 (i := 5) (j := 6) (l := 7) rfl sc_law_beyond_right.nd rfl rfl rfl (by decide) (by decide) (by decide) rfl rfl rfl (pa_cons (pe_call G_law_pick (hr.mono (by decide)) (by rfl) T.law_pick.g T.law_pick.F.kp T.law_pick.b .nil pass0 (pa_cons (pv 0) (pa_cons (pe_lst (pa_cons pe_int (pa_cons pe_int (pa_cons pe_int (pa_cons pe_int (pa_cons pe_int pa_nil)))))) pa_nil))) (pa_cons (pe_call G_law_pick (hr.mono (by decide)) (by rfl) T.law_pick.g T.law_pick.F.kp T.law_pick.b .nil pass0 (pa_cons (pv 0) (pa_cons (pe_lst (pa_cons pe_str (pa_cons pe_str pa_nil))) pa_nil))) (pa_cons (pe_call G_law_odds (hr.mono (by decide)) (by rfl) T.law_odds.g T.law_odds.F.kp T.law_odds.b .nil pass0 (pa_cons (pv 0) pa_nil)) pa_nil))) (by rfl)) (pss_cons (ps_set (i := 8) sc_law_beyond_right.nd rfl (Or.inl rfl) (pe_call G_law_value (hr.mono (by decide)) (by rfl) T.law_value.g T.law_value.F.kp T.law_value.b .nil pass0 (pa_cons (pv 2) (pa_cons (pv 3) (pa_cons (pv 4) (pa_cons (pv 5) (pa_cons (pv 6) (pa_cons (pv 7) (pa_cons (pv 1) pa_nil))))))))) (pss_one (ps_ret (pe_cmpR (k_eq (K := B.K) rfl hr.units) (pe_call G_looker (hr.mono (by decide)) (by rfl) T.looker.g T.looker.F.kp T.looker.b .nil pass0 (pa_cons (pv 2) (pa_cons (pv 3) (pa_cons (pv 4) (pa_cons (pv 5) (pa_cons (pv 6) (pa_cons (pv 7) (pa_cons (pv 1) pa_nil)))))))) (pv 8) (nomark _))))))))), ?_⟩
  obtain ⟨rfl, rfl, rfl⟩ := hS
  have hR : ∀ (H : Hp) (v : L2.V) (d : D), R ((B.at pp).op p) H v d → R ((B.at pp).op p) H v d := fun _ _ _ r => r
  refine si_seq (si_asg op_pp (ei_tup pj_stb op_pp (ai_cons op_pp (ei_draw (B := B.at pp) hn rfl (ai_P pj_stb (ds := [.lst [.str "cap", .str "step"]]) (by walk_at "av") ⟨1, _, ⟨_, rfl, List.cons_ne_nil _ _, le1000 rfl, rfl, rfl⟩, by omega, fun d n1 hd hn1 => ?_⟩)))))
  obtain ⟨c, rfl⟩ : ∃ c : Bool, d = .str (rW c) := by
    rcases List.mem_cons.mp hd with rfl | hd
    · exact ⟨true, rfl⟩
    · rw [List.mem_singleton.mp hd]
      exact ⟨false, rfl⟩
  refine ai_cons op_pp (ei_opL pj_stb op_pp (d := .int 1) eg_int (ei_draw (B := B.at pp) hn rfl (ai_P pj_stb (ds := [.int ((3 : Nat) : Int)]) (ag_cons eg_int ag_nil) ⟨1, _, ⟨3, rfl, by omega, by omega, rfl, rfl⟩, by omega, fun d n2 hd hn2 => ?_⟩)))
  obtain ⟨r, rfl, hr3⟩ := hd
  refine ⟨.int (1 + (r : Int)), og_add, ai_nil ⟨le1000 rfl, ?_⟩⟩
  generalize hmm : 1 + (r : Int) = mm
  have m1 : 1 ≤ mm := by omega
  have m3 : mm ≤ 3 := by omega
  dsimp only [thenI]
  refine si_seq (si_asg op_pp (ei_bi pj_stb op_pp (ai_cons op_pp (ei_known (i := 9) (c := 3) hn rfl (by decide) (by show 9 < 10; decide) (by decide) (by decide) (by omega) (fun x => eg_int) fun Tv n3 hw hn3 => ai_nil ⟨tw Tv, cg_tupleL, ?_⟩))))
  dsimp only [thenI]
  refine si_seq (si_par op_pp (ai_cons op_pp (ei_draw (B := B.at pp) hn rfl (ai_P pj_stb (ds := [.lst [.lst [.int 4, .int 2, .int 6, .int 9], .lst [.int 9, .int 6, .int 1, .int 2]]]) (by walk_at "av") ⟨1, _, ⟨_, rfl, List.cons_ne_nil _ _, le1000 rfl, rfl, rfl⟩, by omega, fun d n4 hd hn4 => ?_⟩))))
  obtain ⟨own, rfl, hnd, hol⟩ : ∃ own : List Int, d = .lst (own.map D.int) ∧ own.Nodup ∧ own.length = 4 := by
    rcases List.mem_cons.mp hd with rfl | hd
    · exact ⟨[4, 2, 6, 9], rfl, by decide, rfl⟩
    · rw [List.mem_singleton.mp hd]
      exact ⟨[9, 6, 1, 2], rfl, by decide, rfl⟩
  refine ai_cons op_pp (ei_draw (B := B.at pp) hn rfl (ai_P pj_stb (ds := [.int (((if mm = 1 then 5 else 3 : Nat)) : Int)]) (ag_cons (eg_if (b := decide (mm = 1)) (tg_test (eg_eqI (eg_ixT (ds := [.str (rW c), .int mm]) (d := .int mm) (eg_var rfl) eg_int rfl) (eg_int (i := 1)))) (fun hb => ?_) (fun hb => ?_)) ag_nil) ⟨1, _, ⟨(if mm = 1 then 5 else 3 : Nat), rfl, by split <;> omega, by split <;> omega, rfl, rfl⟩, by omega, fun d n5 hd hn5 => ?_⟩))
  · rw [if_pos (of_decide_eq_true hb)]
    exact eg_int
  · rw [if_neg (of_decide_eq_false hb)]
    exact eg_int
  obtain ⟨sz, rfl, hsz⟩ := hd
  have hsz : sz ≤ 4 := by split at hsz <;> omega
  refine ai_nil ⟨_, _, rfl, ?_⟩
  dsimp only [thenI]
  refine si_seq (si_par3 op_pp (ai_cons op_pp (ei_draw (B := B.at pp) hn rfl (ai_P pj_stb (ds := [.lst [.int 2, .int 6, .int 7, .int 5, .int 9]]) (by walk_at "av") ⟨1, _, ⟨_, rfl, List.cons_ne_nil _ _, le1000 rfl, rfl, rfl⟩, by omega, fun d n6 hd hn6 => ?_⟩))))
  obtain ⟨g, rfl⟩ : ∃ g : Int, d = .int g := by
    simp only [List.mem_cons, List.not_mem_nil, or_false] at hd
    rcases hd with h | h | h | h | h <;> exact ⟨_, h⟩
  refine ai_cons op_pp (ei_draw (B := B.at pp) hn rfl (ai_P pj_stb (ds := [.lst [.str "plain", .str "early"]]) (by walk_at "av") ⟨1, _, ⟨_, rfl, List.cons_ne_nil _ _, le1000 rfl, rfl, rfl⟩, by omega, fun d n7 hd hn7 => ?_⟩))
  obtain ⟨m, rfl, hm⟩ : ∃ m : Str, d = .str m ∧ ManOk m := by
    rcases List.mem_cons.mp hd with rfl | hd
    · exact ⟨_, rfl, manp.1⟩
    · rw [List.mem_singleton.mp hd]
      exact ⟨_, rfl, manp.2.1⟩
  refine ai_cons op_pp (ei_draw (B := B.at pp) hn rfl (ai_nil ⟨2, _, ⟨rfl, rfl, rfl⟩, by omega, fun d n8 hd hn8 => ai_nil ⟨_, _, _, rfl, ?_⟩⟩))
  obtain ⟨q, hq, rfl⟩ := hd
  dsimp only [thenI]
  have hv : VOk 2 sz Tv own m q mm := ⟨hw, by omega, by omega, by omega, hm, hq, m1, m3⟩
  refine si_sg pj_stb hR ?_
  refine sg_seq (sg_asg (eg_call (d := vlD (vl (cN g m) own q c mm sz Tv)) (ds := [tw Tv, .lst (own.map D.int), .int (sz : Nat), .int g, .str m, fr q, .tup (rl c mm)]) (by walk_at "av") ⟨Tv, own, sz, g, m, q, c, mm, 2, by omega, rfl, hv, rfl⟩) ?_)
  exact sg_ret (eg_eqK (b := true) (e := vlD (vl (cN g m) own q c mm sz Tv)) (eg_call (d := vlD (vl (cN g m) own q c mm sz Tv)) (ds := [tw Tv, .lst (own.map D.int), .int (sz : Nat), .int g, .str m, fr q, .tup (rl c mm)]) (by walk_at "av") ⟨Tv, true, false, false, c, own, sz, 2, g, m, q, mm, rfl, hv, hnd, by omega, cb_ok _ (by omega) _ (by omega), rfl⟩) (by walk_at "ev") (vlD_k _).1 (vlD_k _).1 (vlD_k _).2 (vlD_k _).2 ⟨fun _ => rfl, fun _ => rfl⟩) ⟨by omega, rfl⟩
end
end Tl
end
section
set_option Elab.async false
set_option linter.all false
set_option maxRecDepth 100000
set_option maxHeartbeats 2000000
set_option autoImplicit false
set_option exponentiation.threshold 10000

/-! The law's main question. -/
namespace Tl
open PySem PySem.Spec PyProof.Rows L2
local macro_rules | `(tactic| walk_at "ev") => `(tactic| first
  | ((with_reducible refine' eg_var ?k1); (case k1 => exact rfl))
  | with_reducible exact eg_int
  | with_reducible exact eg_str
  | with_reducible exact eg_bl
  | with_reducible exact eg_non
  | ((with_reducible refine' eg_sub ?k1 ?k2); (case k1 => walk_at "ev"); (case k2 => walk_at "ev"))
  | ((with_reducible refine' eg_add ?k1 ?k2); (case k1 => walk_at "ev"); (case k2 => walk_at "ev"))
  | ((with_reducible refine' eg_lt ?k1 ?k2); (case k1 => walk_at "ev"); (case k2 => walk_at "ev"))
  | ((with_reducible refine' eg_le ?k1 ?k2); (case k1 => walk_at "ev"); (case k2 => walk_at "ev"))
  | ((with_reducible refine' eg_gt ?k1 ?k2); (case k1 => walk_at "ev"); (case k2 => walk_at "ev"))
  | ((with_reducible refine' eg_ge ?k1 ?k2); (case k1 => walk_at "ev"); (case k2 => walk_at "ev"))
  | ((with_reducible refine' eg_neg ?k1); (case k1 => walk_at "ev"))
  | ((with_reducible refine' eg_ixT ?k1 ?k2 ?k3); (case k1 => walk_at "ev"); (case k2 => walk_at "ev"); (case k3 => exact rfl))
  | ((with_reducible refine' eg_ixL ?k1 ?k2 ?k3); (case k1 => walk_at "ev"); (case k2 => walk_at "ev"); (case k3 => exact rfl))
  | ((with_reducible refine' eg_tup ?k1 ?k2); (case k1 => walk_at "av"); (case k2 => exact le1000 rfl))
  | ((with_reducible refine' eg_lst ?k1 ?k2); (case k1 => walk_at "av"); (case k2 => exact le1000 rfl))
  | ((with_reducible refine' eg_isN ?k1 ?k2); (case k1 => walk_at "ev"); (case k2 => exact rfl))
  | ((with_reducible refine' eg_notN ?k1 ?k2); (case k1 => walk_at "ev"); (case k2 => exact rfl))
  | ((with_reducible refine' eg_eqI ?k1 ?k2); (case k1 => walk_at "ev"); (case k2 => walk_at "ev"))
  | ((with_reducible refine' eg_eqStr ?k1 ?k2); (case k1 => walk_at "ev"); (case k2 => walk_at "ev"))
  | assumption)
local macro_rules | `(tactic| walk_at "av") => `(tactic| first
  | with_reducible exact ag_nil
  | ((with_reducible refine' ag_cons ?k1 ?k2); (case k1 => walk_at "ev"); (case k2 => walk_at "av")))
local macro_rules | `(tactic| walk_at "tv") => `(tactic| first
  | ((with_reducible refine' tg_test ?k1); (case k1 => walk_at "ev"))
  | ((with_reducible refine' tg_B ?k1); (case k1 => walk_at "ev"))
  | ((with_reducible refine' tg_not ?k1); (case k1 => walk_at "tv")))
local macro_rules | `(tactic| walk_at "nm") => `(tactic| first | dsimp only [cxOf] | skip)

section
variable {B : Bs} {mg : Str → Option Value} {base : Heap}
theorem ml_k (q : Rat) (n : Nat) : sk (.tup [fr q, .int (n : Nat)]) = true ∧ dp (.tup [fr q, .int (n : Nat)]) := ⟨rfl, by show 2 ≤ 64; decide⟩
theorem VOk.two {N n : Nat} {T : Tw} {own : List Int} {m : Str} {p : Rat} {mm : Int} (h : VOk N n T own m p mm) {N' n' : Nat} (hw : Wk N' T) (h1 : N' + n' ≤ 12) (h2 : n' ≤ 9) : VOk N' n' T own m p mm := by
  obtain ⟨_, _, _, h3, h4, h5, h6, h7⟩ := h
  exact ⟨hw, h1, h2, h3, h4, h5, h6, h7⟩
def S_right (ds : List D) (k : Nat) (Po : D → Prop) : Prop := ds = [] ∧ k = 10 ∧ Po = fun d => d = .bl true
theorem ok_law_right (T : Txt B.K mg) : FnOk B.P B.w B.K mg base CX0 19 T.law_right.f T.law_right.d p_law_right (ESp B.P B.w B.K S_right) := by
  have G_law_odds := ok_law_odds (base := base) T
  have G_law_pick := ok_law_pick (base := base) T
  have G_law_coin := ok_law_coin (base := base) T
  have G_law_value := ok_law_value (base := base) T 9
  have G_looker := ok_looker (base := base) T
  have G_blind_looker := ok_blind_looker (base := base) T
  have G_law_blind := ok_law_blind (base := base) T
  have G_law_mean := ok_law_mean (base := base) T
  have G_law_led := ok_law_led (base := base) T
  have G_law_less := ok_law_less (base := base) T
  refine fn_draw T.law_right.F sc_law_right (fun ds k Po h => by obtain ⟨rfl, _⟩ := h; rfl) fun pp p cdv A outer s H E ds n j Po hn hr hS hk => ⟨_, (pss_cons (ps_set (i := 1) sc_law_right.nd rfl (Or.inr rfl) (pe_op (k_add (K := B.K) rfl) pe_int (pe_call G_law_coin (hr.mono (by decide)) (by rfl) T.law_coin.g T.law_coin.F.kp T.law_coin.b .nil pass0 (pa_cons (pv 0) (pa_cons pe_int pa_nil))))) (pss_cons (ps_set (i := 2) sc_law_right.nd rfl (Or.inl rfl) (pe_callTy (call_tupF (K := B.K) rfl) (by rfl) T.m_tuple (by decide +kernel) (pa_cons (pe_lc (own := [("_law_name", 13)]) rfl sc_law_right.nd (k_list (K := B.K) rfl (pe_slice (k_sl (K := B.K) rfl) (pe_lst (pa_cons pe_int (pa_cons pe_int pa_nil))) po_none (po_some (pe_call G_law_coin (hr.mono (by decide)) (by rfl) T.law_coin.g T.law_coin.F.kp T.law_coin.b .nil pass0 (pa_cons (pv 0) (pa_cons pe_int pa_nil)))))) (blkOk_by (own := [("_law_name", 13)]) (N := n_law_right) (sc := defScope s_law_right) (by decide +kernel)) (fun _ _ _ _ _ => (pg_name (i := 13) sc_law_right.nd rfl (Or.inl rfl))) (fun _ _ _ _ _ => pts_nil) (fun _ _ _ _ _ => (pe_tupF (pa_cons (pv 13) (pa_cons (pe_op (k_add (K := B.K) rfl) pe_int (pe_call G_law_coin (hr.mono (by decide)) (by rfl) T.law_coin.g T.law_coin.F.kp T.law_coin.b .nil pass0 (pa_cons (pv 0) (pa_cons (pv 1) pa_nil)))) pa_nil))))) pa_nil))) (pss_cons (ps_set (i := 3) sc_law_right.nd rfl (Or.inl rfl) (pe_ix (k_ix (K := B.K) rfl) (pe_lst (pa_cons (pe_lst (pa_cons pe_int (pa_cons pe_int (pa_cons pe_int pa_nil)))) (pa_cons (pe_lst (pa_cons pe_int (pa_cons pe_int pa_nil))) (pa_cons (pe_lst (pa_cons pe_int (pa_cons pe_int pa_nil))) (pa_cons (pe_lst (pa_cons pe_int pa_nil)) pa_nil))))) (pe_call G_law_coin (hr.mono (by decide)) (by rfl) T.law_coin.g T.law_coin.F.kp T.law_coin.b .nil pass0 (pa_cons (pv 0) (pa_cons pe_int pa_nil))) (fun _ _ => rfl))) (pss_cons (ps_par (i := 4) (j := 5) rfl sc_law_right.nd rfl rfl (by decide) rfl rfl (pa_cons (pe_call G_law_pick (hr.mono (by decide)) (by rfl) T.law_pick.g T.law_pick.F.kp T.law_pick.b .nil pass0 (pa_cons (pv 0) (pa_cons (pe_lst (pa_cons pe_int (pa_cons pe_int (pa_cons pe_int (pa_cons pe_int (pa_cons pe_int (pa_cons pe_int pa_nil))))))) pa_nil))) (pa_cons (pe_call G_law_pick (hr.mono (by decide)) (by rfl) T.law_pick.g T.law_pick.F.kp T.law_pick.b .nil pass0 (pa_cons (pv 0) (pa_cons (pe_lst (pa_cons pe_str (pa_cons pe_str (pa_cons pe_str (pa_cons pe_str pa_nil))))) pa_nil))) pa_nil)) (by rfl)) (pss_cons (ps_par (i := 6) (j := 7) rfl sc_law_right.nd rfl rfl (by decide) rfl rfl (pa_cons (pe_call G_law_odds (hr.mono (by decide)) (by rfl) T.law_odds.g T.law_odds.F.kp T.law_odds.b .nil pass0 (pa_cons (pv 0) pa_nil)) (pa_cons (pe_call G_law_coin (hr.mono (by decide)) (by rfl) T.law_coin.g T.law_coin.F.kp T.law_coin.b .nil pass0 (pa_cons (pv 0) (pa_cons pe_int pa_nil))) pa_nil)) (by rfl)) (pss_cons (ps_for PassesOwn.never rfl (k_tup (K := B.K) rfl (pe_tupF (pa_cons (pe_tupF (pa_cons pe_str (pa_cons (pv 1) pa_nil))) (pa_cons (pe_tupF (pa_cons pe_str (pa_cons (pv 1) pa_nil))) pa_nil)))) (pg_name (i := 8) sc_law_right.nd rfl (Or.inl rfl)) (pss_cons (ps_set (i := 9) sc_law_right.nd rfl (Or.inl rfl) (pe_call G_law_value (hr.mono (by decide)) (by rfl) T.law_value.g T.law_value.F.kp T.law_value.b .nil pass0 (pa_cons (pv 2) (pa_cons (pv 3) (pa_cons (pv 7) (pa_cons (pv 4) (pa_cons (pv 5) (pa_cons (pv 6) (pa_cons (pv 8) pa_nil))))))))) (pss_cons (ps_if (pt_cmpR (k_ne (K := B.K) rfl hr.units) (pe_call G_looker (hr.mono (by decide)) (by rfl) T.looker.g T.looker.F.kp T.looker.b .nil pass0 (pa_cons (pv 2) (pa_cons (pv 3) (pa_cons (pv 7) (pa_cons (pv 4) (pa_cons (pv 5) (pa_cons (pv 6) (pa_cons (pv 8) pa_nil)))))))) (pv 9) (nomark _)) (pss_one (ps_ret pe_bl)) pss_nil) (pss_one (ps_if (pt_val (pe_call G_law_less (hr.mono (by decide)) (by rfl) T.law_less.g T.law_less.F.kp T.law_less.b .nil pass0 (pa_cons (pe_ix (k_ix (K := B.K) rfl) (pe_call G_looker (hr.mono (by decide)) (by rfl) T.looker.g T.looker.F.kp T.looker.b .nil pass0 (pa_cons (pv 2) (pa_cons (pe_callTy (call_tupF (K := B.K) rfl) (by rfl) T.m_tuple (by decide +kernel) (pa_cons (pv 3) pa_nil)) (pa_cons (pe_op (k_add (K := B.K) rfl) (pv 7) pe_int) (pa_cons (pv 4) (pa_cons (pv 5) (pa_cons (pe_callTy (k_lst (K := B.K) rfl) (by rfl) T.m_list (by decide +kernel) (pa_cons (pv 6) pa_nil)) (pa_cons (pe_callTy (k_lst (K := B.K) rfl) (by rfl) T.m_list (by decide +kernel) (pa_cons (pv 8) pa_nil)) pa_nil)))))))) pe_int (fun _ _ => rfl)) (pa_cons (pe_ix (k_ix (K := B.K) rfl) (pv 9) pe_int (fun _ _ => rfl)) pa_nil)))) (pss_one (ps_ret pe_bl)) pss_nil))))) (pss_cons (ps_set (i := 10) sc_law_right.nd rfl (Or.inl rfl) (pe_ix (k_ix (K := B.K) rfl) (pe_call G_looker (hr.mono (by decide)) (by rfl) T.looker.g T.looker.F.kp T.looker.b .nil pass0 (pa_cons (pv 2) (pa_cons (pv 3) (pa_cons (pv 7) (pa_cons (pv 4) (pa_cons (pv 5) (pa_cons (pv 6) (pa_cons (pe_tupF (pa_cons pe_str (pa_cons (pv 1) pa_nil))) pa_nil)))))))) pe_int (fun _ _ => rfl))) (pss_cons (ps_asg (pe_call G_blind_looker (hr.mono (by decide)) (by rfl) T.blind_looker.g T.blind_looker.F.kp T.blind_looker.b .nil pass0 (pa_cons (pv 2) (pa_cons (pv 3) (pa_cons (pv 7) (pa_cons (pv 4) (pa_cons (pv 5) (pa_cons (pv 6) (pa_cons (pv 1) pa_nil)))))))) (k_pg (K := B.K) (n := 2) rfl rfl (pgs_cons (pg_name (i := 11) sc_law_right.nd rfl (Or.inl rfl)) (pgs_cons (pg_name (i := 12) sc_law_right.nd rfl (Or.inl rfl)) pgs_nil)))) (pss_cons (ps_if (pt_cmpR (k_ne (K := B.K) rfl hr.units) (pe_tupF (pa_cons (pv 11) (pa_cons (pe_callB (k_len (K := B.K) rfl) (by rfl) T.m_len (by decide +kernel) (pa_cons (pv 12) pa_nil)) pa_nil))) (pe_call G_law_blind (hr.mono (by decide)) (by rfl) T.law_blind.g T.law_blind.F.kp T.law_blind.b .nil pass0 (pa_cons (pv 2) (pa_cons (pv 3) (pa_cons (pv 7) (pa_cons (pv 4) (pa_cons (pv 5) (pa_cons (pv 6) (pa_cons (pe_tupF (pa_cons pe_str (pa_cons (pv 1) pa_nil))) pa_nil)))))))) (nomark _)) (pss_one (ps_ret pe_bl)) pss_nil) (pss_cons (ps_if (pt_cmpR (k_ne (K := B.K) rfl hr.units) (pe_call G_law_mean (hr.mono (by decide)) (by rfl) T.law_mean.g T.law_mean.F.kp T.law_mean.b .nil pass0 (pa_cons (pe_call G_law_led (hr.mono (by decide)) (by rfl) T.law_led.g T.law_led.F.kp T.law_led.b .nil pass0 (pa_cons (pe_lst (pa_cons (pe_tupF (pa_cons (pv 2) (pa_cons (pe_tupF (pa_cons pe_int (pa_cons pe_int pa_nil))) pa_nil))) pa_nil)) (pa_cons (pv 12) (pa_cons (pv 6) (pa_cons (pe_tupF (pa_cons pe_str (pa_cons (pv 1) pa_nil))) pa_nil))))) (pa_cons (pv 4) (pa_cons (pv 5) pa_nil)))) (pv 11) (nomark _)) (pss_one (ps_ret pe_bl)) pss_nil) (pss_one (ps_ret (pe_and (pe_not (pe_call G_law_less (hr.mono (by decide)) (by rfl) T.law_less.g T.law_less.F.kp T.law_less.b .nil pass0 (pa_cons (pv 10) (pa_cons (pv 11) pa_nil)))) (pe_one (pe_or (pe_cmpR op_gt (pv 7) pe_int (nomark _)) (pe_one (pe_cmpR (k_eq (K := B.K) rfl hr.units) (pv 10) (pv 11) (nomark _)))))))))))))))))), ?_⟩
  obtain ⟨rfl, rfl, rfl⟩ := hS
  have hR : ∀ (H : Hp) (v : L2.V) (d : D), R ((B.at pp).op p) H v d → R ((B.at pp).op p) H v d := fun _ _ _ r => r
  refine si_seq (si_asg op_pp (ei_opL pj_stb op_pp (d := .int 2) eg_int (ei_draw (B := B.at pp) hn rfl (ai_P pj_stb (ds := [.int ((2 : Nat) : Int)]) (ag_cons eg_int ag_nil) ⟨1, _, ⟨2, rfl, by omega, by omega, rfl, rfl⟩, by omega, fun d n1 hd hn1 => ?_⟩))))
  obtain ⟨r, rfl, hr2⟩ := hd
  refine ⟨.int ((2 + r : Nat) : Int), og_is og_add (congrArg D.int (by omega)), ?_⟩
  generalize hcap : 2 + r = cap
  have c2 : 2 ≤ cap := by omega
  have c3 : cap ≤ 3 := by omega
  have m1 : (1 : Int) ≤ (cap : Nat) := by omega
  have m3 : ((cap : Nat) : Int) ≤ 3 := by omega
  dsimp only [thenI]
  refine si_seq (si_asg op_pp (ei_bi pj_stb op_pp (ai_cons op_pp (ei_known (i := 13) (c := cap) hn rfl (by decide) (by show 13 < 14; decide) (by omega) c3 (by omega) (fun x => eg_var rfl) fun Tv n3 hw hn3 => ai_nil ⟨tw Tv, cg_tupleL, ?_⟩))))
  dsimp only [thenI]
  refine si_seq (si_asg op_pp (ei_opL pj_stb op_pp (d := .lst [.lst [.int 2, .int 6, .int 4], .lst [.int 4, .int 2], .lst [.int 9, .int 6], .lst [.int 1]]) (by walk_at "ev") (ei_draw (B := B.at pp) hn rfl (ai_P pj_stb (ds := [.int ((4 : Nat) : Int)]) (ag_cons eg_int ag_nil) ⟨1, _, ⟨4, rfl, by omega, by omega, rfl, rfl⟩, by omega, fun d n4 hd hn4 => ?_⟩))))
  obtain ⟨r4, rfl, hr4⟩ := hd
  obtain ⟨own, hown, hnd, hol⟩ : ∃ own : List Int, ([.lst [.int 2, .int 6, .int 4], .lst [.int 4, .int 2], .lst [.int 9, .int 6], .lst [.int 1]] : List D)[r4] = .lst (own.map D.int) ∧ own.Nodup ∧ own.length ≤ 3 := by
    have hc : r4 = 0 ∨ r4 = 1 ∨ r4 = 2 ∨ r4 = 3 := by omega
    rcases hc with rfl | rfl | rfl | rfl
    · exact ⟨[2, 6, 4], rfl, by decide, by decide⟩
    · exact ⟨[4, 2], rfl, by decide, by decide⟩
    · exact ⟨[9, 6], rfl, by decide, by decide⟩
    · exact ⟨[1], rfl, by decide, by decide⟩
  refine ⟨.lst (own.map D.int), og_is (og_ixI hr4) hown, ?_⟩
  dsimp only [thenI]
  refine si_seq (si_par op_pp (ai_cons op_pp (ei_draw (B := B.at pp) hn rfl (ai_P pj_stb (ds := [.lst [.int 2, .int 4, .int 6, .int 7, .int 0, .int 9]]) (by walk_at "av") ⟨1, _, ⟨_, rfl, List.cons_ne_nil _ _, le1000 rfl, rfl, rfl⟩, by omega, fun d n5 hd hn5 => ?_⟩))))
  obtain ⟨g, rfl⟩ : ∃ g : Int, d = .int g := by
    simp only [List.mem_cons, List.not_mem_nil, or_false] at hd
    rcases hd with h | h | h | h | h | h <;> exact ⟨_, h⟩
  refine ai_cons op_pp (ei_draw (B := B.at pp) hn rfl (ai_P pj_stb (ds := [.lst [.str "plain", .str "lean", .str "early", .str "sharp"]]) (by walk_at "av") ⟨1, _, ⟨_, rfl, List.cons_ne_nil _ _, le1000 rfl, rfl, rfl⟩, by omega, fun d n6 hd hn6 => ?_⟩))
  obtain ⟨m, rfl, hm⟩ : ∃ m : Str, d = .str m ∧ ManOk m := by
    rcases List.mem_cons.mp hd with rfl | hd
    · exact ⟨_, rfl, manp.1⟩
    rcases List.mem_cons.mp hd with rfl | hd
    · exact ⟨_, rfl, manp.2.2.1⟩
    rcases List.mem_cons.mp hd with rfl | hd
    · exact ⟨_, rfl, manp.2.1⟩
    · rw [List.mem_singleton.mp hd]
      exact ⟨_, rfl, manp.2.2.2⟩
  refine ai_nil ⟨_, _, rfl, ?_⟩
  dsimp only [thenI]
  refine si_seq (si_par op_pp (ai_cons op_pp (ei_draw (B := B.at pp) hn rfl (ai_nil ⟨2, _, ⟨rfl, rfl, rfl⟩, by omega, fun d n7 hd hn7 => ?_⟩))))
  obtain ⟨q, hq, rfl⟩ := hd
  refine ai_cons op_pp (ei_draw (B := B.at pp) hn rfl (ai_P pj_stb (ds := [.int ((4 : Nat) : Int)]) (ag_cons eg_int ag_nil) ⟨1, _, ⟨4, rfl, by omega, by omega, rfl, rfl⟩, by omega, fun d n8 hd hn8 => ai_nil ⟨_, _, rfl, ?_⟩⟩))
  obtain ⟨sz, rfl, hsz⟩ := hd
  dsimp only [thenI]
  refine si_sg pj_stb hR ?_
  have hv : ∀ k, k ≤ 4 → VOk 2 k Tv own m q (cap : Nat) := fun k hk => ⟨hw, by omega, by omega, by omega, hm, hq, m1, m3⟩
  have hsm : ∀ (c : Bool) (k : Nat), k ≤ 4 → sm (vl (cN g m) own q c (cap : Nat) k Tv).1 := fun c k hk => sz_sm (vl_s (hv k hk)) q.den_pos hq.2.2 (by omega) (by decide)
  have en : (sz : Int) + 1 = ((sz + 1 : Nat) : Int) := by omega
  refine sg_ctx [some (raw p), some (.int (cap : Nat)), some (tw Tv), some (.lst (own.map D.int)), some (.int g), some (.str m), some (fr q), some (.int (sz : Nat)), none, none, none, none, none, none] rfl ?_
  refine sg_seq (sg_for (wg_tup (ds := [.tup (rl true (cap : Nat)), .tup (rl false (cap : Nat))]) (eg_tup (ag_cons (eg_is (eg_tup (ag_cons eg_str (ag_cons (by walk_at "ev") ag_nil)) (le1000 rfl)) rfl) (ag_cons (eg_is (eg_tup (ag_cons eg_str (ag_cons (by walk_at "ev") ag_nil)) (le1000 rfl)) rfl) ag_nil)) (le1000 rfl)))
    (fun i Γ => ∃ x8 x9 : Option D, Γ = [some (raw p), some (.int (cap : Nat)), some (tw Tv), some (.lst (own.map D.int)), some (.int g), some (.str m), some (fr q), some (.int (sz : Nat)), x8, x9, none, none, none, none]) ⟨none, none, rfl⟩ ?_ ?_)
  · rintro i d Γ hd ⟨x8, x9, rfl⟩
    obtain ⟨c, rfl⟩ : ∃ c : Bool, d = .tup (rl c (cap : Nat)) := by
      have := List.mem_of_getElem? hd
      rcases List.mem_cons.mp this with rfl | h
      · exact ⟨true, rfl⟩
      · rw [List.mem_singleton.mp h]
        exact ⟨false, rfl⟩
    refine ⟨_, _, gg_name, ?_⟩
    refine sg_seq (sg_asg (eg_call (d := vlD (vl (cN g m) own q c (cap : Nat) sz Tv)) (ds := [tw Tv, .lst (own.map D.int), .int (sz : Nat), .int g, .str m, fr q, .tup (rl c (cap : Nat))]) (by walk_at "av") ⟨Tv, own, sz, g, m, q, c, (cap : Nat), 2, by omega, rfl, hv sz (by omega), rfl⟩) ?_)
    refine sg_seq (sg_if (tg_test (eg_neK (b := true) (e := vlD (vl (cN g m) own q c (cap : Nat) sz Tv)) (eg_call (d := vlD (vl (cN g m) own q c (cap : Nat) sz Tv)) (ds := [tw Tv, .lst (own.map D.int), .int (sz : Nat), .int g, .str m, fr q, .tup (rl c (cap : Nat))]) (by walk_at "av") ⟨Tv, true, false, false, c, own, sz, 2, g, m, q, (cap : Nat), rfl, hv sz (by omega), hnd, by omega, cb_ok _ (by omega) _ (by omega), rfl⟩) (by walk_at "ev") (vlD_k _).1 (vlD_k _).1 (vlD_k _).2 (vlD_k _).2 ⟨fun _ => rfl, fun _ => rfl⟩)) (fun h => absurd h Bool.false_ne_true) fun _ => sg_next ?_)
    refine sg_if (tg_is (c := false) (tg_B (eg_call (d := .bl (decide ((vl (cN g m) own q c (cap : Nat) (sz + 1) Tv).1 < (vl (cN g m) own q c (cap : Nat) sz Tv).1))) (ag_cons (eg_ixT (i := 0) (ds := [fr (vl (cN g m) own q c (cap : Nat) (sz + 1) Tv).1, odD (vl (cN g m) own q c (cap : Nat) (sz + 1) Tv).2]) (eg_call (d := vlD (vl (cN g m) own q c (cap : Nat) (sz + 1) Tv)) (ds := [tw Tv, .tup (own.map D.int), .int ((sz + 1 : Nat) : Int), .int g, .str m, .lst (chD q.num q.den), .lst (rl c (cap : Nat))]) (ag_cons (by walk_at "ev") (ag_cons (eg_bi (ag_cons (by walk_at "ev") ag_nil) cg_tupleL) (ag_cons (eg_is (eg_add (by walk_at "ev") eg_int) (congrArg D.int en)) (ag_cons (by walk_at "ev") (ag_cons (by walk_at "ev") (ag_cons (eg_bi (ag_cons (d := .tup (chD q.num q.den)) (eg_var rfl) ag_nil) cg_listL) (ag_cons (eg_bi (ag_cons (by walk_at "ev") ag_nil) cg_listL) ag_nil))))))) ⟨Tv, false, true, true, c, own, sz + 1, 2, g, m, q, (cap : Nat), rfl, hv (sz + 1) (by omega), hnd, by omega, cb_ok _ (by omega) _ (by omega), rfl⟩) eg_int rfl) (ag_cons (eg_ixT (i := 0) (ds := [fr (vl (cN g m) own q c (cap : Nat) sz Tv).1, odD (vl (cN g m) own q c (cap : Nat) sz Tv).2]) (eg_var rfl) eg_int rfl) ag_nil)) ⟨_, _, rfl, hsm c (sz + 1) (by omega), hsm c sz (by omega), rfl⟩)) (decide_eq_false ?_)) (fun h => absurd h Bool.false_ne_true) fun _ => sg_next ⟨_, _, rfl⟩
    exact Rat.not_lt.mpr (vl_mono hq.le.1 hq.le.2 sz Tv)
  · rintro Γ ⟨x8, x9, rfl⟩
    obtain ⟨h, hh, he, hle, heq⟩ := bl_is (cN g m) own true (cap : Nat) sz Tv hq.le.1 hq.le.2
    have hbo : BlOk Tv own m q (cap : Nat) := ⟨hw.mono (by omega), by omega, hm, hq, m1, m3⟩
    have hpo : PlOk Tv h q (cap : Nat) := hbo.pl (cut_mem hh)
    have hbs : (cut sz (plz Tv own [[]])).foldl (bs1 (mhc g m q true (cap : Nat) Tv)) none = some (mhc g m q true (cap : Nat) Tv h, h) := he
    have hlb : (plz Tv own [[]]).foldl (lb1 (mhc g m q true (cap : Nat) Tv) sz) none = some (mhc g m q true (cap : Nat) Tv h, h.length) := by
      have z := lb_eq (mhc g m q true (cap : Nat) Tv) sz (plz Tv own [[]]) none
      rw [hbs] at z
      exact z
    have hle2 : mhc g m q true (cap : Nat) Tv h ≤ (vl (cN g m) own q true (cap : Nat) sz Tv).1 := hle
    have heq2 : sz ≤ 1 → (vl (cN g m) own q true (cap : Nat) sz Tv).1 = mhc g m q true (cap : Nat) Tv h := heq
    have hmsm : sm (mhc g m q true (cap : Nat) Tv h) := mhc_sm g m true hpo
    have hlc : mhc g m q true (cap : Nat) Tv h = mn (fun T => ((cN g m T : Nat) : Rat)) (h.foldl (lst1 q true (cap : Nat)) [(Tv, 1)]) := (mhc_l g m q true (cap : Nat) Tv h).symm
    generalize hbest : mhc g m q true (cap : Nat) Tv h = bst at hbs hlb hle2 heq2 hmsm hlc
    refine sg_seq (sg_asg (d := fr (vl (cN g m) own q true (cap : Nat) sz Tv).1) (eg_ixT (i := 0) (ds := [fr (vl (cN g m) own q true (cap : Nat) sz Tv).1, odD (vl (cN g m) own q true (cap : Nat) sz Tv).2]) (eg_call (d := vlD (vl (cN g m) own q true (cap : Nat) sz Tv)) (ds := [tw Tv, .lst (own.map D.int), .int (sz : Nat), .int g, .str m, fr q, .tup (rl true (cap : Nat))]) (ag_cons (by walk_at "ev") (ag_cons (by walk_at "ev") (ag_cons (by walk_at "ev") (ag_cons (by walk_at "ev") (ag_cons (by walk_at "ev") (ag_cons (by walk_at "ev") (ag_cons (eg_is (eg_tup (ag_cons eg_str (ag_cons (by walk_at "ev") ag_nil)) (le1000 rfl)) rfl) ag_nil))))))) ⟨Tv, true, false, false, true, own, sz, 2, g, m, q, (cap : Nat), rfl, hv sz (by omega), hnd, by omega, cb_ok _ (by omega) _ (by omega), rfl⟩) eg_int rfl) ?_)
    refine sg_seq (sg_asgG (d := .tup [fr bst, plD h]) (eg_call (ds := [tw Tv, .lst (own.map D.int), .int (sz : Nat), .int g, .str m, fr q, .int (cap : Nat)]) (by walk_at "av") ⟨Tv, own, sz, g, m, q, (cap : Nat), rfl, hbo, hnd, by omega, by rw [hbs]; rfl⟩) gg_2 ?_)
    refine sg_seq (sg_if (tg_test (eg_neK (b := true) (d := .tup [fr bst, .int (h.length : Nat)]) (e := .tup [fr bst, .int (h.length : Nat)]) (eg_is (eg_tup (ag_cons (d := fr bst) (by walk_at "ev") (ag_cons (eg_bi (ag_cons (d := .lst (h.map dD)) (eg_var rfl) ag_nil) cg_lenL) ag_nil)) (le1000 rfl)) (by rw [List.length_map])) (eg_call (ds := [tw Tv, .lst (own.map D.int), .int (sz : Nat), .int g, .str m, fr q, .tup (rl true (cap : Nat))]) (ag_cons (by walk_at "ev") (ag_cons (by walk_at "ev") (ag_cons (by walk_at "ev") (ag_cons (by walk_at "ev") (ag_cons (by walk_at "ev") (ag_cons (by walk_at "ev") (ag_cons (eg_is (eg_tup (ag_cons eg_str (ag_cons (by walk_at "ev") ag_nil)) (le1000 rfl)) rfl) ag_nil))))))) ⟨Tv, own, sz, g, m, q, true, (cap : Nat), rfl, hbo, by rw [hlb]; rfl⟩) (ml_k _ _).1 (ml_k _ _).1 (ml_k _ _).2 (ml_k _ _).2 ⟨fun _ => rfl, fun _ => rfl⟩)) (fun h => absurd h Bool.false_ne_true) fun _ => sg_next ?_)
    refine sg_seq (sg_if (tg_test (eg_neK (b := true) (d := fr bst) (e := fr bst) (eg_call (ag_cons (eg_call (d := .lst ((h.foldl (lst1 q true (cap : Nat)) [(Tv, 1)]).map stD)) (ag_cons (eg_lst (ag_cons (eg_tup (ag_cons (by walk_at "ev") (ag_cons (eg_is (eg_tup (ag_cons eg_int (ag_cons eg_int ag_nil)) (le1000 rfl)) fr_one.symm) ag_nil)) (le1000 rfl)) ag_nil) (le1000 rfl)) (ag_cons (d := .lst (h.map dD)) (eg_var rfl) (ag_cons (by walk_at "ev") (ag_cons (eg_is (e := .tup (rl true (cap : Nat))) (eg_tup (ag_cons eg_str (ag_cons (by walk_at "ev") ag_nil)) (le1000 rfl)) rfl) ag_nil)))) ⟨Tv, h, q, true, (cap : Nat), rfl, hpo, rfl⟩) (by walk_at "av")) ⟨h.foldl (lst1 q true (cap : Nat)) [(Tv, 1)], g, m, 16, 6561, rfl, hm, sts_led hpo, by rw [hlc]⟩) (by walk_at "ev") (fr_k _).1 (fr_k _).1 (fr_k _).2 (fr_k _).2 ⟨fun _ => rfl, fun _ => rfl⟩)) (fun h => absurd h Bool.false_ne_true) fun _ => sg_next ?_)
    refine sg_ret (eg_is (e := .bl true) (eg_andV (a := !decide ((vl (cN g m) own q true (cap : Nat) sz Tv).1 < bst)) (b := decide ((1 : Int) < (sz : Nat)) || decide ((vl (cN g m) own q true (cap : Nat) sz Tv).1 = bst)) (eg_notV (eg_call (by walk_at "av") ⟨_, _, rfl, hsm true sz (by omega), hmsm, rfl⟩)) fun _ => eg_orV (eg_gt (by walk_at "ev") eg_int) fun _ => eg_eqK (by walk_at "ev") (by walk_at "ev") (fr_k _).1 (fr_k _).1 (fr_k _).2 (fr_k _).2 fr_inj) (congrArg D.bl ?_)) ⟨by omega, rfl⟩
    rw [decide_eq_false (Rat.not_lt.mpr hle2), Bool.not_false, Bool.true_and]
    by_cases z : sz ≤ 1
    · rw [decide_eq_true (heq2 z), Bool.or_true]
    · rw [decide_eq_true (by omega), Bool.true_or]
end
end Tl
end
section
set_option Elab.async false
set_option linter.all false
set_option maxRecDepth 100000
set_option maxHeartbeats 2000000
set_option autoImplicit false
set_option exponentiation.threshold 10000

/-! The law. -/
namespace Tl
open PySem PySem.Spec PyProof.Rows L2
local macro_rules | `(tactic| walk_at "ev") => `(tactic| first
  | ((with_reducible refine' eg_var ?k1); (case k1 => exact rfl))
  | with_reducible exact eg_int
  | with_reducible exact eg_str
  | with_reducible exact eg_bl
  | with_reducible exact eg_non
  | ((with_reducible refine' eg_sub ?k1 ?k2); (case k1 => walk_at "ev"); (case k2 => walk_at "ev"))
  | ((with_reducible refine' eg_add ?k1 ?k2); (case k1 => walk_at "ev"); (case k2 => walk_at "ev"))
  | ((with_reducible refine' eg_lt ?k1 ?k2); (case k1 => walk_at "ev"); (case k2 => walk_at "ev"))
  | ((with_reducible refine' eg_le ?k1 ?k2); (case k1 => walk_at "ev"); (case k2 => walk_at "ev"))
  | ((with_reducible refine' eg_gt ?k1 ?k2); (case k1 => walk_at "ev"); (case k2 => walk_at "ev"))
  | ((with_reducible refine' eg_ge ?k1 ?k2); (case k1 => walk_at "ev"); (case k2 => walk_at "ev"))
  | ((with_reducible refine' eg_neg ?k1); (case k1 => walk_at "ev"))
  | ((with_reducible refine' eg_ixT ?k1 ?k2 ?k3); (case k1 => walk_at "ev"); (case k2 => walk_at "ev"); (case k3 => exact rfl))
  | ((with_reducible refine' eg_ixL ?k1 ?k2 ?k3); (case k1 => walk_at "ev"); (case k2 => walk_at "ev"); (case k3 => exact rfl))
  | ((with_reducible refine' eg_tup ?k1 ?k2); (case k1 => walk_at "av"); (case k2 => exact le1000 rfl))
  | ((with_reducible refine' eg_lst ?k1 ?k2); (case k1 => walk_at "av"); (case k2 => exact le1000 rfl))
  | ((with_reducible refine' eg_isN ?k1 ?k2); (case k1 => walk_at "ev"); (case k2 => exact rfl))
  | ((with_reducible refine' eg_notN ?k1 ?k2); (case k1 => walk_at "ev"); (case k2 => exact rfl))
  | ((with_reducible refine' eg_eqI ?k1 ?k2); (case k1 => walk_at "ev"); (case k2 => walk_at "ev"))
  | ((with_reducible refine' eg_eqStr ?k1 ?k2); (case k1 => walk_at "ev"); (case k2 => walk_at "ev"))
  | assumption)
local macro_rules | `(tactic| walk_at "av") => `(tactic| first
  | with_reducible exact ag_nil
  | ((with_reducible refine' ag_cons ?k1 ?k2); (case k1 => walk_at "ev"); (case k2 => walk_at "av")))
local macro_rules | `(tactic| walk_at "tv") => `(tactic| first
  | ((with_reducible refine' tg_test ?k1); (case k1 => walk_at "ev"))
  | ((with_reducible refine' tg_B ?k1); (case k1 => walk_at "ev"))
  | ((with_reducible refine' tg_not ?k1); (case k1 => walk_at "tv")))
local macro_rules | `(tactic| walk_at "nm") => `(tactic| first | dsimp only [cxOf] | skip)

theorem fix1 : vl (cN 9 "plain") [1, 2, 3, 4] (od 1 2) true 1 4 [] = (4, some (true, 1)) := by decide +kernel
theorem vl_a : D.tup [.tup [.int 4, .int 1], .tup [.str "insert", .int 1]] = vlD (4, some (true, 1)) := rfl
theorem vl_b : D.tup [.tup [.int 4, .int 1], .non] = vlD (4, none) := rfl
theorem fix2 : vl (cN 5 "plain") [4] (od 1 2) true 1 0 [(5, 3)] = (4, none) := by decide +kernel
section
variable {B : Bs} {p : Addr} {Rr : Hp → V → D → Prop} {ι : Type} {J : ι → Hp → Prop} {Γ : Gm} {m : ι} {t u : TS} {O : OutI ι → Prop} {te tb : TE} {ta : TA} {d e f : D}
/-- a test that draws, and is false -/
def TF (B : Bs) (p : Addr) {ι : Type} (J : ι → Hp → Prop) (tt : TT) (Γ : Gm) (m : ι) (k : ι → Prop) : Prop := ∀ (σ : L2.St) (H : Hp), Rep B H σ Γ → J m H → ∀ Q : Bool → Hp → Prop, (∀ H' m', Sp p H H' → J m' H' → k m' → Q false H') → tt σ H Q
theorem tf_not {k : ι → Prop} (h : EI B p J te Γ m (fun d m' => d = .bl true ∧ k m')) : TF B p J (tNot (tB te)) Γ m k := fun σ H r j Q q => h σ H r j _ fun v H1 d m1 s1 j1 r1 ⟨e, hk⟩ => by
  subst e
  exact ⟨true, r1.bl_inv, q H1 m1 s1 j1 hk⟩
theorem tf_or {tt tu : TT} {k : ι → Prop} (hp : B.pp p) (h : TF B p J tt Γ m (fun m1 => TF B p J tu Γ m1 k)) : TF B p J (tOr tt tu) Γ m k := fun σ H r j Q q => h σ H r j _ fun H1 m1 s1 j1 h2 => h2 σ H1 (r.sm (s1.sm hp)) j1 Q fun H2 m2 s2 j2 hk => q H2 m2 (s1.trans s2) j2 hk
theorem si_ifE {tt : TT} (hp : B.pp p) (h : TF B p J tt Γ m (fun m1 => SI B p Rr J u Γ m1 O)) : SI B p Rr J (tIfS tt t u) Γ m O := fun σ H E r j n q b c => h σ H r j _ fun H1 m1 s1 j1 h2 =>
  h2 σ H1 E (r.sm (s1.sm hp)) j1 (fun σ' H' Γ' m' e j' r' o => n σ' H' Γ' m' (s1.trans e) j' r' o) (fun v H' d m' e j' r' o => q v H' d m' (s1.trans e) j' r' o) (fun σ' H' Γ' m' e j' r' o => b σ' H' Γ' m' (s1.trans e) j' r' o) fun σ' H' Γ' m' e j' r' o => c σ' H' Γ' m' (s1.trans e) j' r' o
end
section
variable {B : Bs} {mg : Str → Option Value} {base : Heap}
theorem sg_purse {Γ : Gm} {i : Nat} {t : TA} {u : TS} {E : XK} {c : Int} {O : Out → Prop} (ha : AG B t Γ [.int c]) (h : ∀ p, ¬ B.pp p → SI (B.op p) p (R (B.op p)) (PJ p) u (Γ.set i (some (raw p))) 0 (endO O)) : SG B (tSeq (tAsg (tCall PuSp [] E t) (gName i)) u) Γ O := fun σ H E r n q b cc => by
  refine ha σ H r _ fun vs H1 e1 r1 => ?_
  have e := ra_ints (ns := [c]) r1
  subst e
  refine ⟨c, rfl, fun p H' hp e2 hj => ?_⟩
  have hp0 : H p = none := by
    cases z : H p with
    | none => rfl
    | some u => rw [e1 _ _ z] at hp; cases hp
  have r' : Rep (B.op p) H' (σ.set i (some (.ref p))) (Γ.set i (some (raw p))) := (r.opn hp0 (e1.trans e2) (by obtain ⟨x, y, z, hx, _⟩ := hj; rw [hx]; exact fun z => nomatch z)).set i (.raw _)
  exact h p (r.pp.new hp0) _ H' E r' hj (fun σ' H2 Γ' m' s j' r2 o => n σ' H2 Γ' (Sp.same_from (e1.trans e2) s hp0) r2.shut o) (fun v H2 d m' s j' r2 o => q v H2 d (Sp.same_from (e1.trans e2) s hp0) r2.shut o) (fun _ _ _ _ _ _ _ o => o.elim) fun _ _ _ _ _ _ _ o => o.elim
theorem sg_at {te : TE} {g : TG} {b u : TS} {Γ : Gm} {O : Out → Prop} {σ0 : L2.St} {H : Hp} {E : Ends} (h : SG B (tSeq (tFor (iList B.K fun σ' H' Q' => σ' = σ0 → H' = H → te σ0 H Q') g b) u) Γ O) (r : Rep B H σ0 Γ) (n : ∀ σ' H' Γ', Same H H' → Rep B H' σ' Γ' → O (.nx Γ') → E.nx σ' H') (q : ∀ v H' d, Same H H' → R B H' v d → O (.rt d) → E.rt v H')
    (bb : ∀ σ' H' Γ', Same H H' → Rep B H' σ' Γ' → O (.bk Γ') → E.bk σ' H') (c : ∀ σ' H' Γ', Same H H' → Rep B H' σ' Γ' → O (.ct Γ') → E.ct σ' H') : tSeq (tFor (iList B.K te) g b) u E σ0 H := by
  have z := h σ0 H E r n q bb c
  exact z rfl rfl
def spLaw (K : PySem.W.Frag) : L2.Sp := fun vs H Q _ => ∃ (a : Addr) (ns : List Int), vs = [.ref a] ∧ SqL K H a (ns.map V.int) ∧ ∀ H', Q (.bl true) H'
theorem half : ChR (od 1 2) ∧ D.tup [.int 1, .int 2] = fr (od 1 2) := by
  obtain ⟨h1, h2, h3⟩ := od_ok (1, 2) (by decide)
  refine ⟨h1, ?_⟩
  unfold fr
  rw [h2, h3]
  rfl
theorem wk_fix : Wk 2 [(2, 1), (6, 2)] := ⟨by unfold Srt1; decide, fun q hq => by
  simp only [List.mem_cons, List.not_mem_nil, or_false] at hq
  rcases hq with rfl | rfl <;> decide, by decide⟩
theorem ok_law (T : Txt B.K mg) : FnOk B.P B.w B.K mg base CX0 20 T.law.f T.law.d p_law (spLaw B.K) := by
  have G_law_purse := ok_law_purse (base := base) T
  have G_law_right := ok_law_right (base := base) T
  have G_law_long_right := ok_law_long_right (base := base) T
  have G_law_beyond_right := ok_law_beyond_right (base := base) T
  have G_blind_looker := ok_blind_looker (base := base) T
  have G_law_blind := ok_law_blind (base := base) T
  have G_looker := ok_looker (base := base) T
  refine T.law.F.ok sc_law (fun vs H Q E h => by obtain ⟨_, _, rfl, _⟩ := h; rfl) fun cdv A outer s H vs Q E hr hs => ⟨_, (pss_cons (ps_for PassesOwn.never rfl (k_list (K := B.K) rfl (pe_op (k_add (K := B.K) rfl) (pe_slice (k_sl (K := B.K) rfl) (pv 0) po_none (po_some pe_int)) (pe_lst (pa_cons pe_int pa_nil)))) (pg_name (i := 1) sc_law.nd rfl (Or.inl rfl)) (pss_cons (ps_set (i := 2) sc_law.nd rfl (Or.inl rfl) (pe_call G_law_purse (hr.mono (by decide)) (by rfl) T.law_purse.g T.law_purse.F.kp T.law_purse.b .nil pass0 (pa_cons (pv 1) pa_nil))) (pss_cons (ps_for PassesOwn.never rfl (pi_range1 (by rfl) T.m_range (pa_cons pe_int pa_nil)) (pg_name (i := 3) sc_law.nd rfl (Or.inl rfl)) (pss_one (ps_if (pt_not (pt_val (pe_call G_law_right (hr.mono (by decide)) (by rfl) T.law_right.g T.law_right.F.kp T.law_right.b .nil pass0 (pa_cons (pv 2) pa_nil)))) (pss_one (ps_ret pe_bl)) pss_nil))) (pss_one (ps_if (PW.pt (pw_or (pt_not (pt_val (pe_call G_law_long_right (hr.mono (by decide)) (by rfl) T.law_long_right.g T.law_long_right.F.kp T.law_long_right.b .nil pass0 (pa_cons (pv 2) pa_nil)))) (pw_or (pt_not (pt_val (pe_call G_law_beyond_right (hr.mono (by decide)) (by rfl) T.law_beyond_right.g T.law_beyond_right.F.kp T.law_beyond_right.b .nil pass0 (pa_cons (pv 2) pa_nil)))) (pw_or1 (pt_not (pt_val (pe_call G_law_beyond_right (hr.mono (by decide)) (by rfl) T.law_beyond_right.g T.law_beyond_right.F.kp T.law_beyond_right.b .nil pass0 (pa_cons (pv 2) pa_nil)))))))) (pss_one (ps_ret pe_bl)) pss_nil))))) (pss_cons (ps_set (i := 4) sc_law.nd rfl (Or.inl rfl) (pe_tupF (pa_cons (pe_tupF (pa_cons pe_int (pa_cons pe_int pa_nil))) (pa_cons (pe_tupF (pa_cons pe_int (pa_cons pe_int pa_nil))) pa_nil)))) (pss_cons (ps_for PassesOwn.never rfl (k_tup (K := B.K) rfl (pe_tupF (pa_cons (pe_tupF (pa_cons (pe_lst (pa_cons pe_int (pa_cons pe_int (pa_cons pe_int (pa_cons pe_int pa_nil))))) (pa_cons pe_int pa_nil))) (pa_cons (pe_tupF (pa_cons (pe_lst (pa_cons pe_int pa_nil)) (pa_cons pe_int pa_nil))) (pa_cons (pe_tupF (pa_cons (pe_lst (pa_cons pe_int (pa_cons pe_int (pa_cons pe_int (pa_cons pe_int pa_nil))))) (pa_cons pe_int pa_nil))) pa_nil))))) (k_pg (K := B.K) (n := 2) rfl rfl (pgs_cons (pg_name (i := 5) sc_law.nd rfl (Or.inl rfl)) (pgs_cons (pg_name (i := 6) sc_law.nd rfl (Or.inl rfl)) pgs_nil))) (pss_cons (ps_asg (pe_call G_blind_looker (hr.mono (by decide)) (by rfl) T.blind_looker.g T.blind_looker.F.kp T.blind_looker.b .nil pass0 (pa_cons (pv 4) (pa_cons (pv 5) (pa_cons (pv 6) (pa_cons pe_int (pa_cons pe_str (pa_cons (pe_tupF (pa_cons pe_int (pa_cons pe_int pa_nil))) (pa_cons pe_int pa_nil)))))))) (k_pg (K := B.K) (n := 2) rfl rfl (pgs_cons (pg_name (i := 7) sc_law.nd rfl (Or.inl rfl)) (pgs_cons (pg_name (i := 8) sc_law.nd rfl (Or.inl rfl)) pgs_nil)))) (pss_one (ps_if (pt_cmpR (k_ne (K := B.K) rfl hr.units) (pe_tupF (pa_cons (pv 7) (pa_cons (pe_callB (k_len (K := B.K) rfl) (by rfl) T.m_len (by decide +kernel) (pa_cons (pv 8) pa_nil)) pa_nil))) (pe_call G_law_blind (hr.mono (by decide)) (by rfl) T.law_blind.g T.law_blind.F.kp T.law_blind.b .nil pass0 (pa_cons (pv 4) (pa_cons (pv 5) (pa_cons (pv 6) (pa_cons pe_int (pa_cons pe_str (pa_cons (pe_tupF (pa_cons pe_int (pa_cons pe_int pa_nil))) (pa_cons (pe_tupF (pa_cons pe_str (pa_cons pe_int pa_nil))) pa_nil)))))))) (nomark _)) (pss_one (ps_ret pe_bl)) pss_nil)))) (pss_cons (ps_par (i := 4) (j := 9) rfl sc_law.nd rfl rfl (by decide) rfl rfl (pa_cons (pe_tupF (pa_cons (pe_tupF (pa_cons pe_int (pa_cons pe_int pa_nil))) pa_nil)) (pa_cons (pe_call G_looker (hr.mono (by decide)) (by rfl) T.looker.g T.looker.F.kp T.looker.b .nil pass0 (pa_cons (pe_tupF pa_nil) (pa_cons (pe_lst (pa_cons pe_int (pa_cons pe_int (pa_cons pe_int (pa_cons pe_int pa_nil))))) (pa_cons pe_int (pa_cons pe_int (pa_cons pe_str (pa_cons (pe_tupF (pa_cons pe_int (pa_cons pe_int pa_nil))) (pa_cons (pe_tupF (pa_cons pe_str (pa_cons pe_int pa_nil))) pa_nil)))))))) pa_nil)) (by rfl)) (pss_one (ps_ret (pe_and (pe_cmpR (k_eq (K := B.K) rfl hr.units) (pv 9) (pe_tupF (pa_cons (pe_tupF (pa_cons pe_int (pa_cons pe_int pa_nil))) (pa_cons (pe_tupF (pa_cons pe_str (pa_cons pe_int pa_nil))) pa_nil))) (nomark _)) (pe_one (pe_cmpR (k_eq (K := B.K) rfl hr.units) (pe_call G_looker (hr.mono (by decide)) (by rfl) T.looker.g T.looker.F.kp T.looker.b .nil pass0 (pa_cons (pv 4) (pa_cons (pe_lst (pa_cons pe_int pa_nil)) (pa_cons pe_int (pa_cons pe_int (pa_cons pe_str (pa_cons (pe_tupF (pa_cons pe_int (pa_cons pe_int pa_nil))) (pa_cons (pe_tupF (pa_cons pe_str (pa_cons pe_int pa_nil))) pa_nil)))))))) (pe_tupF (pa_cons (pe_tupF (pa_cons pe_int (pa_cons pe_int pa_nil))) (pa_cons pe_non pa_nil))) (nomark _)))))))))), ?_⟩
  obtain ⟨a, ns, rfl, hq, q⟩ := hs
  have r0 : Rep (B.at fun _ => False) H (L2.start n_law [.ref a]) [some (.raw (.ref a)), none, none, none, none, none, none, none, none, none] := rep_start (ds := [.raw (.ref a)]) (fun _ h => h.elim) (.cons (.raw _) .nil)
  generalize L2.start n_law [.ref a] = σ0 at r0
  refine sg_at (B := B.at fun _ => False) (O := Rt (.bl true)) (Γ := [some (.raw (.ref a)), none, none, none, none, none, none, none, none, none]) ?_ r0 (fun _ _ _ _ _ o => nomatch (show D.bl true = D.non from o)) (fun v H' d e r' o => ?_) (fun _ _ _ _ _ o => o.elim) (fun _ _ _ _ _ o => o.elim)
  rotate_left
  · have o' : d = .bl true := o
    subst o'
    obtain rfl := r'.bl_inv
    exact q H'
  refine sg_seq (sg_for (wg_list (ds := (ns.take 4 ++ [0]).map D.int) ?_) (fun i Γ => ∃ x1 x2 x3 : Option D, Γ = [some (.raw (.ref a)), x1, x2, x3, none, none, none, none, none, none]) ⟨none, none, none, rfl⟩ ?_ ?_)
  · intro σ' H' r' Q' q' e1 e2
    subst e1
    subst e2
    obtain ⟨w, hw, rw'⟩ := r'.at_ 0 _ rfl
    obtain rfl := rw'.raw_inv
    refine ⟨_, hw, 4, rfl, a, _, rfl, hq, fun pa hpa => ?_⟩
    have e4 : cutV (ns.map V.int) none (some 4) = (ns.take 4).map V.int := by
      have := cut_take (ns.map V.int) 4
      rw [← List.map_take] at this
      exact this
    rw [e4]
    have hra : ∀ (zs : List Int) (H2 : Hp), RA (B.at fun _ => False) H2 (zs.map V.int) (zs.map D.int) := by
      intro zs H2
      induction zs with
      | nil => exact .nil
      | cons z zs ih => exact .cons (.int z) ih
    have rl : R (B.at fun _ => False) (upd H' pa (.lst ((ns.take 4).map V.int))) (.ref pa) (.lst ((ns.take 4).map D.int)) := .lst upd_same (fun z => z) (hra _ _)
    have z := (eg_lst (B := B.at fun _ => False) (Γ := [some (.raw (.ref a)), none, none, none, none, none, none, none, none, none]) (ag_cons (eg_int (i := 0)) ag_nil) (le1000 rfl))
    dsimp only
    refine z σ' (upd H' pa (.lst ((ns.take 4).map V.int))) (r'.ext (same_new hpa)) _ fun v H2 e2 r2 => ?_
    · refine (og_or2 (og_or1 (og_cat ?_)) : OG (B.at fun _ => False) (rAddA B.K) (.lst ((ns.take 4).map D.int)) (.lst [.int 0]) _) H2 (.ref pa) v (fun _ h => h.elim) (rl.ext e2) r2 Q' fun v3 H3 e3 r3 => q' v3 H3 ((same_new hpa).trans (e2.trans e3)) ?_
      · rw [List.length_map, List.length_take, sizeLine_eq]
        show min 4 ns.length + 1 ≤ _
        omega
      · rw [List.map_append]
        exact r3
  · rintro i d Γ hd ⟨x1, x2, x3, rfl⟩
    obtain ⟨c, _, rfl⟩ := map_get hd
    refine ⟨_, _, gg_name, ?_⟩
    refine sg_purse (c := c) (by walk_at "av") fun p hp => ?_
    have hR : ∀ (H : Hp) (v : L2.V) (d : D), R ((B.at fun _ => False).op p) H v d → R ((B.at fun _ => False).op p) H v d := fun _ _ _ r => r
    refine si_seq (si_for pj_stb op_pp (wg_range1 (n := 2) (by walk_at "av") (by decide) (by decide)) (fun t Γ n => n ≤ t * 10 ∧ ∃ x3 : Option D, Γ = [some (.raw (.ref a)), some (.int c), some (raw p), x3, none, none, none, none, none, none]) ⟨by omega, x3, rfl⟩ ?_ ?_)
    · rintro t d Γ n hd ⟨hn, x3, rfl⟩
      have ht : t < 2 := (List.getElem?_eq_some_iff.mp hd).1
      refine ⟨_, _, gg_name, ?_⟩
      refine si_ifE op_pp (tf_not (ei_draw (B := B.at fun _ => False) hp rfl (ai_nil ⟨10, _, ⟨rfl, rfl, rfl⟩, by omega, fun d n' hd hn' => ⟨hd, si_sg pj_stb hR (sg_next ⟨by omega, _, rfl⟩)⟩⟩)))
    · rintro Γ n ⟨hn, x3, rfl⟩
      have hl : (rng 0 (2 : Int).toNat).length = 2 := rfl
      rw [hl] at hn
      dsimp only [thenI]
      refine si_ifE op_pp (tf_or op_pp (tf_not (ei_draw (B := B.at fun _ => False) hp rfl (ai_nil ⟨5, _, ⟨rfl, rfl, rfl⟩, by omega, fun d n1 hd hn1 => ⟨hd, tf_or op_pp (tf_not (ei_draw (B := B.at fun _ => False) hp rfl (ai_nil ⟨11, _, ⟨rfl, rfl, rfl⟩, by omega, fun d n2 hd hn2 => ⟨hd, tf_not (ei_draw (B := B.at fun _ => False) hp rfl (ai_nil ⟨11, _, ⟨rfl, rfl, rfl⟩, by omega, fun d n3 hd hn3 => ⟨hd, si_sg pj_stb hR (sg_next ⟨_, _, _, rfl⟩)⟩⟩))⟩⟩)))⟩⟩))))
  · rintro Γ ⟨x1, x2, x3, rfl⟩
    obtain ⟨hq1, hqf⟩ := half
    generalize hqq : od 1 2 = hf at hq1 hqf
    refine sg_seq (sg_asg (eg_is (d := .tup [.tup [.int 2, .int 1], .tup [.int 6, .int 2]]) (e := tw [(2, 1), (6, 2)]) (by walk_at "ev") rfl) ?_)
    refine sg_seq (sg_for (wg_tup (ds := [.tup [.lst (([4, 2, 6, 9] : List Int).map D.int), .int ((8 : Nat) : Int)], .tup [.lst (([6] : List Int).map D.int), .int ((8 : Nat) : Int)], .tup [.lst (([4, 2, 6, 9] : List Int).map D.int), .int ((4 : Nat) : Int)]]) (eg_is (d := .tup [.tup [.lst [.int 4, .int 2, .int 6, .int 9], .int 8], .tup [.lst [.int 6], .int 8], .tup [.lst [.int 4, .int 2, .int 6, .int 9], .int 4]]) (by walk_at "ev") rfl)) (fun i Γ => ∃ x5 x6 x7 x8 : Option D, Γ = [some (.raw (.ref a)), x1, x2, x3, some (tw [(2, 1), (6, 2)]), x5, x6, x7, x8, none]) ⟨none, none, none, none, rfl⟩ ?_ ?_)
    · rintro i d Γ hd ⟨x5, x6, x7, x8, rfl⟩
      obtain ⟨own, sz, rfl, hnd, hol, hsz⟩ : ∃ (own : List Int) (sz : Nat), d = .tup [.lst (own.map D.int), .int (sz : Nat)] ∧ own.Nodup ∧ own.length ≤ 4 ∧ sz ≤ 8 := by
        have := List.mem_of_getElem? hd
        rcases List.mem_cons.mp this with rfl | h
        · exact ⟨[4, 2, 6, 9], 8, rfl, by decide, by decide, by decide⟩
        rcases List.mem_cons.mp h with rfl | h
        · exact ⟨[6], 8, rfl, by decide, by decide, by decide⟩
        · rw [List.mem_singleton.mp h]
          exact ⟨[4, 2, 6, 9], 4, rfl, by decide, by decide, by decide⟩
      obtain ⟨h, hh, he, _, _⟩ := bl_is (cN 9 "early") own true 2 sz [(2, 1), (6, 2)] hq1.le.1 hq1.le.2
      have hbo : BlOk [(2, 1), (6, 2)] own "early" hf 2 := ⟨wk_fix.mono (by omega), hol, manp.2.1, hq1, by decide, by decide⟩
      have hbs : (cut sz (plz [(2, 1), (6, 2)] own [[]])).foldl (bs1 (mhc 9 "early" hf true 2 [(2, 1), (6, 2)])) none = some (mhc 9 "early" hf true 2 [(2, 1), (6, 2)] h, h) := he
      have hlb : (plz [(2, 1), (6, 2)] own [[]]).foldl (lb1 (mhc 9 "early" hf true 2 [(2, 1), (6, 2)]) sz) none = some (mhc 9 "early" hf true 2 [(2, 1), (6, 2)] h, h.length) := by
        have z := lb_eq (mhc 9 "early" hf true 2 [(2, 1), (6, 2)]) sz (plz [(2, 1), (6, 2)] own [[]]) none
        rw [hbs] at z
        exact z
      generalize hbest : mhc 9 "early" hf true 2 [(2, 1), (6, 2)] h = bst at hbs hlb
      refine ⟨_, _, gg_2, ?_⟩
      refine sg_seq (sg_asgG (d := .tup [fr bst, plD h]) (eg_call (ds := [tw [(2, 1), (6, 2)], .lst (own.map D.int), .int (sz : Nat), .int 9, .str "early", fr hf, .int 2]) (ag_cons (by walk_at "ev") (ag_cons (by walk_at "ev") (ag_cons (by walk_at "ev") (ag_cons (by walk_at "ev") (ag_cons (by walk_at "ev") (ag_cons (eg_is (d := .tup [.int 1, .int 2]) (by walk_at "ev") hqf) (ag_cons eg_int ag_nil))))))) ⟨[(2, 1), (6, 2)], own, sz, 9, "early", hf, 2, rfl, hbo, hnd, hsz, by rw [hbs]; rfl⟩) gg_2 ?_)
      refine sg_if (tg_test (eg_neK (b := true) (d := .tup [fr bst, .int (h.length : Nat)]) (e := .tup [fr bst, .int (h.length : Nat)]) (eg_is (eg_tup (ag_cons (d := fr bst) (by walk_at "ev") (ag_cons (eg_bi (ag_cons (d := .lst (h.map dD)) (eg_var rfl) ag_nil) cg_lenL) ag_nil)) (le1000 rfl)) (by rw [List.length_map])) (eg_call (ds := [tw [(2, 1), (6, 2)], .lst (own.map D.int), .int (sz : Nat), .int 9, .str "early", fr hf, .tup (rl true 2)]) (ag_cons (by walk_at "ev") (ag_cons (by walk_at "ev") (ag_cons (by walk_at "ev") (ag_cons (by walk_at "ev") (ag_cons (by walk_at "ev") (ag_cons (eg_is (d := .tup [.int 1, .int 2]) (by walk_at "ev") hqf) (ag_cons (eg_is (eg_tup (ag_cons eg_str (ag_cons eg_int ag_nil)) (le1000 rfl)) rfl) ag_nil))))))) ⟨[(2, 1), (6, 2)], own, sz, 9, "early", hf, true, 2, rfl, hbo, by rw [hlb]; rfl⟩) (ml_k _ _).1 (ml_k _ _).1 (ml_k _ _).2 (ml_k _ _).2 ⟨fun _ => rfl, fun _ => rfl⟩)) (fun h => absurd h Bool.false_ne_true) fun _ => sg_next ⟨_, _, _, _, rfl⟩
    · rintro Γ ⟨x5, x6, x7, x8, rfl⟩
      have v1 : VOk 0 4 [] [1, 2, 3, 4] "plain" hf 1 := ⟨⟨List.Pairwise.nil, fun q h => absurd h List.not_mem_nil, by decide⟩, by decide, by decide, by decide, manp.1, hq1, by decide, by decide⟩
      have v2 : VOk 1 0 [(5, 3)] [4] "plain" hf 1 := ⟨⟨List.pairwise_singleton _ _, fun q hq => by rw [List.mem_singleton.mp hq]; decide, by decide⟩, by decide, by decide, by decide, manp.1, hq1, by decide, by decide⟩
      have f1 : vl (cN 9 "plain") [1, 2, 3, 4] hf true 1 4 [] = (4, some (true, 1)) := by rw [← hqq]; exact fix1
      have f2 : vl (cN 5 "plain") [4] hf true 1 0 [(5, 3)] = (4, none) := by rw [← hqq]; exact fix2
      refine sg_seq (sg_par (d := tw [(5, 3)]) (e := vlD (4, some (true, 1))) (ag_cons (eg_is (d := .tup [.tup [.int 5, .int 3]]) (by walk_at "ev") rfl) (ag_cons (eg_call (ds := [tw [], .lst (([1, 2, 3, 4] : List Int).map D.int), .int ((4 : Nat) : Int), .int 9, .str "plain", fr hf, .tup (rl true 1)]) (ag_cons (eg_is (eg_tup ag_nil (le1000 rfl)) rfl) (ag_cons (eg_is (d := .lst [.int 1, .int 2, .int 3, .int 4]) (by walk_at "ev") rfl) (ag_cons eg_int (ag_cons (by walk_at "ev") (ag_cons (by walk_at "ev") (ag_cons (eg_is (d := .tup [.int 1, .int 2]) (by walk_at "ev") hqf) (ag_cons (eg_is (eg_tup (ag_cons eg_str (ag_cons eg_int ag_nil)) (le1000 rfl)) rfl) ag_nil))))))) ⟨[], true, false, false, true, [1, 2, 3, 4], 4, 0, 9, "plain", hf, 1, rfl, v1, by decide, by decide, cb_ok _ (by decide) _ (by decide), by rw [f1]⟩) ag_nil)) ?_)
      refine sg_ret (eg_is (e := .bl true) (eg_andV (a := true) (b := true) (eg_eqK (b := true) (d := vlD (4, some (true, 1))) (e := vlD (4, some (true, 1))) (eg_var rfl) (eg_is (d := .tup [.tup [.int 4, .int 1], .tup [.str "insert", .int 1]]) (by walk_at "ev") vl_a) (vlD_k _).1 (vlD_k _).1 (vlD_k _).2 (vlD_k _).2 ⟨fun _ => rfl, fun _ => rfl⟩) fun _ => eg_eqK (b := true) (d := vlD (4, none)) (e := vlD (4, none)) (eg_call (ds := [tw [(5, 3)], .lst (([4] : List Int).map D.int), .int ((0 : Nat) : Int), .int 5, .str "plain", fr hf, .tup (rl true 1)]) (ag_cons (by walk_at "ev") (ag_cons (eg_is (d := .lst [.int 4]) (by walk_at "ev") rfl) (ag_cons eg_int (ag_cons (by walk_at "ev") (ag_cons (by walk_at "ev") (ag_cons (eg_is (d := .tup [.int 1, .int 2]) (by walk_at "ev") hqf) (ag_cons (eg_is (eg_tup (ag_cons eg_str (ag_cons eg_int ag_nil)) (le1000 rfl)) rfl) ag_nil))))))) ⟨[(5, 3)], true, false, false, true, [4], 0, 1, 5, "plain", hf, 1, rfl, v2, by decide, by decide, cb_ok _ (by decide) _ (by decide), by rw [f2]⟩) (eg_is (d := .tup [.tup [.int 4, .int 1], .non]) (by walk_at "ev") vl_b) (vlD_k _).1 (vlD_k _).1 (vlD_k _).2 (vlD_k _).2 ⟨fun _ => rfl, fun _ => rfl⟩) rfl) rfl
end
end Tl
end
section
set_option Elab.async false
set_option linter.all false
set_option maxRecDepth 100000
set_option maxHeartbeats 2000000
set_option autoImplicit false
/-! What the top leaves; the law's own head. -/
namespace Tl
open PySem PySem.Spec PyProof.Rows L2
theorem rel_int {i : Int} {t : Nat} : RelV (.int i) (.int i t) := ⟨t, rfl⟩
theorem all_mk {l : PySem.W.OpenLaw} {w : World} {K : PySem.W.Frag} {h : Heap} {mg : Str → Option Value} {fa : Addr} (X : K.In h) (G : h.Ns mainGlobals mg) (hfa : mg "law" = some (.ref fa))
    {fd0 : Addr} {odd0 and0 : Option Addr} {sld0 : Array (Option Value)} {ocd0 kVd0 dcd0 pmd0 cdd0 ctd0 : Value}
    {fd1 : Addr} {odd1 and1 : Option Addr} {sld1 : Array (Option Value)} {ocd1 kVd1 dcd1 pmd1 cdd1 ctd1 : Value}
    {fd2 : Addr} {odd2 and2 : Option Addr} {sld2 : Array (Option Value)} {ocd2 kVd2 dcd2 pmd2 cdd2 ctd2 : Value}
    {fd3 : Addr} {odd3 and3 : Option Addr} {sld3 : Array (Option Value)} {ocd3 kVd3 dcd3 pmd3 cdd3 ctd3 : Value}
    {fd4 : Addr} {odd4 and4 : Option Addr} {sld4 : Array (Option Value)} {ocd4 kVd4 dcd4 pmd4 cdd4 ctd4 : Value}
    {fd5 : Addr} {odd5 and5 : Option Addr} {sld5 : Array (Option Value)} {ocd5 kVd5 dcd5 pmd5 cdd5 ctd5 : Value}
    {fd6 : Addr} {odd6 and6 : Option Addr} {sld6 : Array (Option Value)} {ocd6 kVd6 dcd6 pmd6 cdd6 ctd6 : Value}
    {Td6 : Addr} {todd6 : Option Addr} {tnd6 : Nat} {tsld6 : Array (Option Value)}
    {fd7 : Addr} {odd7 and7 : Option Addr} {sld7 : Array (Option Value)} {ocd7 kVd7 dcd7 pmd7 cdd7 ctd7 : Value}
    {fd8 : Addr} {odd8 and8 : Option Addr} {sld8 : Array (Option Value)} {ocd8 kVd8 dcd8 pmd8 cdd8 ctd8 : Value}
    {fd9 : Addr} {odd9 and9 : Option Addr} {sld9 : Array (Option Value)} {ocd9 kVd9 dcd9 pmd9 cdd9 ctd9 : Value}
    {fd10 : Addr} {odd10 and10 : Option Addr} {sld10 : Array (Option Value)} {ocd10 kVd10 dcd10 pmd10 cdd10 ctd10 : Value}
    {fd11 : Addr} {odd11 and11 : Option Addr} {sld11 : Array (Option Value)} {ocd11 kVd11 dcd11 pmd11 cdd11 ctd11 : Value}
    {fd12 : Addr} {odd12 and12 : Option Addr} {sld12 : Array (Option Value)} {ocd12 kVd12 dcd12 pmd12 cdd12 ctd12 : Value}
    {fd13 : Addr} {odd13 and13 : Option Addr} {sld13 : Array (Option Value)} {ocd13 kVd13 dcd13 pmd13 cdd13 ctd13 : Value}
    {fd14 : Addr} {odd14 and14 : Option Addr} {sld14 : Array (Option Value)} {ocd14 kVd14 dcd14 pmd14 cdd14 ctd14 : Value}
    {fd15 : Addr} {odd15 and15 : Option Addr} {sld15 : Array (Option Value)} {ocd15 kVd15 dcd15 pmd15 cdd15 ctd15 : Value}
    {fd16 : Addr} {odd16 and16 : Option Addr} {sld16 : Array (Option Value)} {ocd16 kVd16 dcd16 pmd16 cdd16 ctd16 : Value}
    {fd17 : Addr} {odd17 and17 : Option Addr} {sld17 : Array (Option Value)} {ocd17 kVd17 dcd17 pmd17 cdd17 ctd17 : Value}
    {fd18 : Addr} {odd18 and18 : Option Addr} {sld18 : Array (Option Value)} {ocd18 kVd18 dcd18 pmd18 cdd18 ctd18 : Value}
    {fd19 : Addr} {odd19 and19 : Option Addr} {sld19 : Array (Option Value)} {ocd19 kVd19 dcd19 pmd19 cdd19 ctd19 : Value}
    {fd20 : Addr} {odd20 and20 : Option Addr} {sld20 : Array (Option Value)} {ocd20 kVd20 dcd20 pmd20 cdd20 ctd20 : Value}
    {fd21 : Addr} {odd21 and21 : Option Addr} {sld21 : Array (Option Value)} {ocd21 kVd21 dcd21 pmd21 cdd21 ctd21 : Value}
    {fd22 : Addr} {odd22 and22 : Option Addr} {sld22 : Array (Option Value)} {ocd22 kVd22 dcd22 pmd22 cdd22 ctd22 : Value}
    {fd23 : Addr} {odd23 and23 : Option Addr} {sld23 : Array (Option Value)} {ocd23 kVd23 dcd23 pmd23 cdd23 ctd23 : Value}
    {Td23 : Addr} {todd23 : Option Addr} {tnd23 : Nat} {tsld23 : Array (Option Value)} {ttd23 : Nat}
    {fd24 : Addr} {odd24 and24 : Option Addr} {sld24 : Array (Option Value)} {ocd24 kVd24 dcd24 pmd24 cdd24 ctd24 : Value}
    {fd25 : Addr} {odd25 and25 : Option Addr} {sld25 : Array (Option Value)} {ocd25 kVd25 dcd25 pmd25 cdd25 ctd25 : Value}
    {fd26 : Addr} {odd26 and26 : Option Addr} {sld26 : Array (Option Value)} {ocd26 kVd26 dcd26 pmd26 cdd26 ctd26 : Value}
    {fd27 : Addr} {odd27 and27 : Option Addr} {sld27 : Array (Option Value)} {ocd27 kVd27 dcd27 pmd27 cdd27 ctd27 : Value}
    {fd28 : Addr} {odd28 and28 : Option Addr} {sld28 : Array (Option Value)} {ocd28 kVd28 dcd28 pmd28 cdd28 ctd28 : Value}
    {fd29 : Addr} {odd29 and29 : Option Addr} {sld29 : Array (Option Value)} {ocd29 kVd29 dcd29 pmd29 cdd29 ctd29 : Value}
    {fd30 : Addr} {odd30 and30 : Option Addr} {sld30 : Array (Option Value)} {ocd30 kVd30 dcd30 pmd30 cdd30 ctd30 : Value}
    {fd31 : Addr} {odd31 and31 : Option Addr} {sld31 : Array (Option Value)} {ocd31 kVd31 dcd31 pmd31 cdd31 ctd31 : Value}
    {fd32 : Addr} {odd32 and32 : Option Addr} {sld32 : Array (Option Value)} {ocd32 kVd32 dcd32 pmd32 cdd32 ctd32 : Value}
    {fd33 : Addr} {odd33 and33 : Option Addr} {sld33 : Array (Option Value)} {ocd33 kVd33 dcd33 pmd33 cdd33 ctd33 : Value}
    {fd34 : Addr} {odd34 and34 : Option Addr} {sld34 : Array (Option Value)} {ocd34 kVd34 dcd34 pmd34 cdd34 ctd34 : Value}
    {fd35 : Addr} {odd35 and35 : Option Addr} {sld35 : Array (Option Value)} {ocd35 kVd35 dcd35 pmd35 cdd35 ctd35 : Value}
    {fd36 : Addr} {odd36 and36 : Option Addr} {sld36 : Array (Option Value)} {ocd36 kVd36 dcd36 pmd36 cdd36 ctd36 : Value}
    {fd37 : Addr} {odd37 and37 : Option Addr} {sld37 : Array (Option Value)} {ocd37 kVd37 dcd37 pmd37 cdd37 ctd37 : Value}
    {fd38 : Addr} {odd38 and38 : Option Addr} {sld38 : Array (Option Value)} {ocd38 kVd38 dcd38 pmd38 cdd38 ctd38 : Value}
    {fd39 : Addr} {odd39 and39 : Option Addr} {sld39 : Array (Option Value)} {ocd39 kVd39 dcd39 pmd39 cdd39 ctd39 : Value}
    {fd40 : Addr} {odd40 and40 : Option Addr} {sld40 : Array (Option Value)} {ocd40 kVd40 dcd40 pmd40 cdd40 ctd40 : Value}
    {fd41 : Addr} {odd41 and41 : Option Addr} {sld41 : Array (Option Value)} {ocd41 kVd41 dcd41 pmd41 cdd41 ctd41 : Value}
    {fd42 : Addr} {odd42 and42 : Option Addr} {sld42 : Array (Option Value)} {ocd42 kVd42 dcd42 pmd42 cdd42 ctd42 : Value}
    {fd43 : Addr} {odd43 and43 : Option Addr} {sld43 : Array (Option Value)} {ocd43 kVd43 dcd43 pmd43 cdd43 ctd43 : Value}
    {fd44 : Addr} {odd44 and44 : Option Addr} {sld44 : Array (Option Value)} {ocd44 kVd44 dcd44 pmd44 cdd44 ctd44 : Value}
    {fd45 : Addr} {odd45 and45 : Option Addr} {sld45 : Array (Option Value)} {ocd45 kVd45 dcd45 pmd45 cdd45 ctd45 : Value}
    {fd46 : Addr} {odd46 and46 : Option Addr} {sld46 : Array (Option Value)} {ocd46 kVd46 dcd46 pmd46 cdd46 ctd46 : Value}
    {fd47 : Addr} {odd47 and47 : Option Addr} {sld47 : Array (Option Value)} {ocd47 kVd47 dcd47 pmd47 cdd47 ctd47 : Value}
    {fd48 : Addr} {odd48 and48 : Option Addr} {sld48 : Array (Option Value)} {ocd48 kVd48 dcd48 pmd48 cdd48 ctd48 : Value}
    {fd49 : Addr} {odd49 and49 : Option Addr} {sld49 : Array (Option Value)} {ocd49 kVd49 dcd49 pmd49 cdd49 ctd49 : Value}
    {fd50 : Addr} {odd50 and50 : Option Addr} {sld50 : Array (Option Value)} {ocd50 kVd50 dcd50 pmd50 cdd50 ctd50 : Value}
    {fd51 : Addr} {odd51 and51 : Option Addr} {sld51 : Array (Option Value)} {ocd51 kVd51 dcd51 pmd51 cdd51 ctd51 : Value}
    {fd52 : Addr} {odd52 and52 : Option Addr} {sld52 : Array (Option Value)} {ocd52 kVd52 dcd52 pmd52 cdd52 ctd52 : Value}
    {fd53 : Addr} {odd53 and53 : Option Addr} {sld53 : Array (Option Value)} {ocd53 kVd53 dcd53 pmd53 cdd53 ctd53 : Value}
    {fd54 : Addr} {odd54 and54 : Option Addr} {sld54 : Array (Option Value)} {ocd54 kVd54 dcd54 pmd54 cdd54 ctd54 : Value}
    {fd55 : Addr} {odd55 and55 : Option Addr} {sld55 : Array (Option Value)} {ocd55 kVd55 dcd55 pmd55 cdd55 ctd55 : Value}
    {fd56 : Addr} {odd56 and56 : Option Addr} {sld56 : Array (Option Value)} {ocd56 kVd56 dcd56 pmd56 cdd56 ctd56 : Value}
    {fd57 : Addr} {odd57 and57 : Option Addr} {sld57 : Array (Option Value)} {ocd57 kVd57 dcd57 pmd57 cdd57 ctd57 : Value}
    {fd58 : Addr} {odd58 and58 : Option Addr} {sld58 : Array (Option Value)} {ocd58 kVd58 dcd58 pmd58 cdd58 ctd58 : Value}
    {fd59 : Addr} {odd59 and59 : Option Addr} {sld59 : Array (Option Value)} {ocd59 kVd59 dcd59 pmd59 cdd59 ctd59 : Value}
    {fd60 : Addr} {odd60 and60 : Option Addr} {sld60 : Array (Option Value)} {ocd60 kVd60 dcd60 pmd60 cdd60 ctd60 : Value}
    {fd61 : Addr} {odd61 and61 : Option Addr} {sld61 : Array (Option Value)} {ocd61 kVd61 dcd61 pmd61 cdd61 ctd61 : Value}
    {fd62 : Addr} {odd62 and62 : Option Addr} {sld62 : Array (Option Value)} {ocd62 kVd62 dcd62 pmd62 cdd62 ctd62 : Value}
    {fd63 : Addr} {odd63 and63 : Option Addr} {sld63 : Array (Option Value)} {ocd63 kVd63 dcd63 pmd63 cdd63 ctd63 : Value}
    {C : Addr}
    {fm0 : Addr} {odm0 anm0 : Option Addr} {slm0 : Array (Option Value)} {ocm0 kVm0 dcm0 pmm0 cdm0 ctm0 : Value}
    {fm1 : Addr} {odm1 anm1 : Option Addr} {slm1 : Array (Option Value)} {ocm1 kVm1 dcm1 pmm1 cdm1 ctm1 : Value}
    {fm2 : Addr} {odm2 anm2 : Option Addr} {slm2 : Array (Option Value)} {ocm2 kVm2 dcm2 pmm2 cdm2 ctm2 : Value}
    {tc0 : Nat}
    {tc1 : Nat}
    {tc2 : Nat}
    {tc3 : Nat}
    {tc4 : Nat}
    {aT : Addr} {tu1 tu2 tu3 tu4 : Nat} {nT : Nat} {slT : Array (Option Value)}
    (ad0 : PySem.W.nsIn K mainGlobals "is_integer" = some (some (.ref fd0)))
    (ld0 : K.lookup fd0 = some ⟨ocd0, odd0, .func (PySem.W.fnOf "is_integer" "is_integer" (defArgs s_is_integer) (defBody s_is_integer) (defScope s_is_integer) .none kVd0 dcd0 pmd0 and0 cdd0 ctd0), sld0⟩)
    (cd0 : PySem.W.codeIn K cdd0 "is_integer" = true)
    (kd0 : PySem.W.keepIn K (.ref fd0) = true)
    (ad1 : PySem.W.nsIn K mainGlobals "is_row" = some (some (.ref fd1)))
    (ld1 : K.lookup fd1 = some ⟨ocd1, odd1, .func (PySem.W.fnOf "is_row" "is_row" (defArgs s_is_row) (defBody s_is_row) (defScope s_is_row) .none kVd1 dcd1 pmd1 and1 cdd1 ctd1), sld1⟩)
    (cd1 : PySem.W.codeIn K cdd1 "is_row" = true)
    (kd1 : PySem.W.keepIn K (.ref fd1) = true)
    (ad2 : PySem.W.nsIn K mainGlobals "is_pair" = some (some (.ref fd2)))
    (ld2 : K.lookup fd2 = some ⟨ocd2, odd2, .func (PySem.W.fnOf "is_pair" "is_pair" (defArgs s_is_pair) (defBody s_is_pair) (defScope s_is_pair) .none kVd2 dcd2 pmd2 and2 cdd2 ctd2), sld2⟩)
    (cd2 : PySem.W.codeIn K cdd2 "is_pair" = true)
    (kd2 : PySem.W.keepIn K (.ref fd2) = true)
    (ad3 : PySem.W.nsIn K mainGlobals "wrong_at" = some (some (.ref fd3)))
    (ld3 : K.lookup fd3 = some ⟨ocd3, odd3, .func (PySem.W.fnOf "wrong_at" "wrong_at" (defArgs s_wrong_at) (defBody s_wrong_at) (defScope s_wrong_at) .none kVd3 dcd3 pmd3 and3 cdd3 ctd3), sld3⟩)
    (cd3 : PySem.W.codeIn K cdd3 "wrong_at" = true)
    (kd3 : PySem.W.keepIn K (.ref fd3) = true)
    (ad4 : PySem.W.nsIn K mainGlobals "checked" = some (some (.ref fd4)))
    (ld4 : K.lookup fd4 = some ⟨ocd4, odd4, .func (PySem.W.fnOf "checked" "checked" (defArgs s_checked) (defBody s_checked) (defScope s_checked) .none kVd4 dcd4 pmd4 and4 cdd4 ctd4), sld4⟩)
    (cd4 : PySem.W.codeIn K cdd4 "checked" = true)
    (kd4 : PySem.W.keepIn K (.ref fd4) = true)
    (ad5 : PySem.W.nsIn K mainGlobals "look_key" = some (some (.ref fd5)))
    (ld5 : K.lookup fd5 = some ⟨ocd5, odd5, .func (PySem.W.fnOf "look_key" "look_key" (defArgs s_look_key) (defBody s_look_key) (defScope s_look_key) .none kVd5 dcd5 pmd5 and5 cdd5 ctd5), sld5⟩)
    (cd5 : PySem.W.codeIn K cdd5 "look_key" = true)
    (kd5 : PySem.W.keepIn K (.ref fd5) = true)
    (ad6 : PySem.W.nsIn K mainGlobals "look_from" = some (some (.ref fd6)))
    (ld6 : K.lookup fd6 = some ⟨ocd6, odd6, .func (PySem.W.fnOf "look_from" "look_from" (defArgs s_look_from) (defBody s_look_from) (defScope s_look_from) (.ref Td6) kVd6 dcd6 pmd6 and6 cdd6 ctd6), sld6⟩)
    (cd6 : PySem.W.codeIn K cdd6 "look_from" = true)
    (kd6 : PySem.W.keepIn K (.ref fd6) = true)
    (td6 : K.lookup Td6 = some ⟨.type "tuple", todd6, .seq #[.none] tnd6, tsld6⟩)
    (ad7 : PySem.W.nsIn K mainGlobals "highest" = some (some (.ref fd7)))
    (ld7 : K.lookup fd7 = some ⟨ocd7, odd7, .func (PySem.W.fnOf "highest" "highest" (defArgs s_highest) (defBody s_highest) (defScope s_highest) .none kVd7 dcd7 pmd7 and7 cdd7 ctd7), sld7⟩)
    (cd7 : PySem.W.codeIn K cdd7 "highest" = true)
    (kd7 : PySem.W.keepIn K (.ref fd7) = true)
    (ad8 : PySem.W.nsIn K mainGlobals "is_rule" = some (some (.ref fd8)))
    (ld8 : K.lookup fd8 = some ⟨ocd8, odd8, .func (PySem.W.fnOf "is_rule" "is_rule" (defArgs s_is_rule) (defBody s_is_rule) (defScope s_is_rule) .none kVd8 dcd8 pmd8 and8 cdd8 ctd8), sld8⟩)
    (cd8 : PySem.W.codeIn K cdd8 "is_rule" = true)
    (kd8 : PySem.W.keepIn K (.ref fd8) = true)
    (ad9 : PySem.W.nsIn K mainGlobals "look_rule" = some (some (.ref fd9)))
    (ld9 : K.lookup fd9 = some ⟨ocd9, odd9, .func (PySem.W.fnOf "look_rule" "look_rule" (defArgs s_look_rule) (defBody s_look_rule) (defScope s_look_rule) .none kVd9 dcd9 pmd9 and9 cdd9 ctd9), sld9⟩)
    (cd9 : PySem.W.codeIn K cdd9 "look_rule" = true)
    (kd9 : PySem.W.keepIn K (.ref fd9) = true)
    (ad10 : PySem.W.nsIn K mainGlobals "is_chance" = some (some (.ref fd10)))
    (ld10 : K.lookup fd10 = some ⟨ocd10, odd10, .func (PySem.W.fnOf "is_chance" "is_chance" (defArgs s_is_chance) (defBody s_is_chance) (defScope s_is_chance) .none kVd10 dcd10 pmd10 and10 cdd10 ctd10), sld10⟩)
    (cd10 : PySem.W.codeIn K cdd10 "is_chance" = true)
    (kd10 : PySem.W.keepIn K (.ref fd10) = true)
    (ad11 : PySem.W.nsIn K mainGlobals "look_chance" = some (some (.ref fd11)))
    (ld11 : K.lookup fd11 = some ⟨ocd11, odd11, .func (PySem.W.fnOf "look_chance" "look_chance" (defArgs s_look_chance) (defBody s_look_chance) (defScope s_look_chance) .none kVd11 dcd11 pmd11 and11 cdd11 ctd11), sld11⟩)
    (cd11 : PySem.W.codeIn K cdd11 "look_chance" = true)
    (kd11 : PySem.W.keepIn K (.ref fd11) = true)
    (ad12 : PySem.W.nsIn K mainGlobals "limit" = some (some (.ref fd12)))
    (ld12 : K.lookup fd12 = some ⟨ocd12, odd12, .func (PySem.W.fnOf "limit" "limit" (defArgs s_limit) (defBody s_limit) (defScope s_limit) .none kVd12 dcd12 pmd12 and12 cdd12 ctd12), sld12⟩)
    (cd12 : PySem.W.codeIn K cdd12 "limit" = true)
    (kd12 : PySem.W.keepIn K (.ref fd12) = true)
    (ad13 : PySem.W.nsIn K mainGlobals "look_manner" = some (some (.ref fd13)))
    (ld13 : K.lookup fd13 = some ⟨ocd13, odd13, .func (PySem.W.fnOf "look_manner" "look_manner" (defArgs s_look_manner) (defBody s_look_manner) (defScope s_look_manner) .none kVd13 dcd13 pmd13 and13 cdd13 ctd13), sld13⟩)
    (cd13 : PySem.W.codeIn K cdd13 "look_manner" = true)
    (kd13 : PySem.W.keepIn K (.ref fd13) = true)
    (ad14 : PySem.W.nsIn K mainGlobals "is_early" = some (some (.ref fd14)))
    (ld14 : K.lookup fd14 = some ⟨ocd14, odd14, .func (PySem.W.fnOf "is_early" "is_early" (defArgs s_is_early) (defBody s_is_early) (defScope s_is_early) .none kVd14 dcd14 pmd14 and14 cdd14 ctd14), sld14⟩)
    (cd14 : PySem.W.codeIn K cdd14 "is_early" = true)
    (kd14 : PySem.W.keepIn K (.ref fd14) = true)
    (ad15 : PySem.W.nsIn K mainGlobals "is_lean" = some (some (.ref fd15)))
    (ld15 : K.lookup fd15 = some ⟨ocd15, odd15, .func (PySem.W.fnOf "is_lean" "is_lean" (defArgs s_is_lean) (defBody s_is_lean) (defScope s_is_lean) .none kVd15 dcd15 pmd15 and15 cdd15 ctd15), sld15⟩)
    (cd15 : PySem.W.codeIn K cdd15 "is_lean" = true)
    (kd15 : PySem.W.keepIn K (.ref fd15) = true)
    (ad16 : PySem.W.nsIn K mainGlobals "next_place" = some (some (.ref fd16)))
    (ld16 : K.lookup fd16 = some ⟨ocd16, odd16, .func (PySem.W.fnOf "next_place" "next_place" (defArgs s_next_place) (defBody s_next_place) (defScope s_next_place) .none kVd16 dcd16 pmd16 and16 cdd16 ctd16), sld16⟩)
    (cd16 : PySem.W.codeIn K cdd16 "next_place" = true)
    (kd16 : PySem.W.keepIn K (.ref fd16) = true)
    (ad17 : PySem.W.nsIn K mainGlobals "walked" = some (some (.ref fd17)))
    (ld17 : K.lookup fd17 = some ⟨ocd17, odd17, .func (PySem.W.fnOf "walked" "walked" (defArgs s_walked) (defBody s_walked) (defScope s_walked) .none kVd17 dcd17 pmd17 and17 cdd17 ctd17), sld17⟩)
    (cd17 : PySem.W.codeIn K cdd17 "walked" = true)
    (kd17 : PySem.W.keepIn K (.ref fd17) = true)
    (ad18 : PySem.W.nsIn K mainGlobals "priced" = some (some (.ref fd18)))
    (ld18 : K.lookup fd18 = some ⟨ocd18, odd18, .func (PySem.W.fnOf "priced" "priced" (defArgs s_priced) (defBody s_priced) (defScope s_priced) .none kVd18 dcd18 pmd18 and18 cdd18 ctd18), sld18⟩)
    (cd18 : PySem.W.codeIn K cdd18 "priced" = true)
    (kd18 : PySem.W.keepIn K (.ref fd18) = true)
    (ad19 : PySem.W.nsIn K mainGlobals "cost_in" = some (some (.ref fd19)))
    (ld19 : K.lookup fd19 = some ⟨ocd19, odd19, .func (PySem.W.fnOf "cost_in" "cost_in" (defArgs s_cost_in) (defBody s_cost_in) (defScope s_cost_in) .none kVd19 dcd19 pmd19 and19 cdd19 ctd19), sld19⟩)
    (cd19 : PySem.W.codeIn K cdd19 "cost_in" = true)
    (kd19 : PySem.W.keepIn K (.ref fd19) = true)
    (ad20 : PySem.W.nsIn K mainGlobals "put_in" = some (some (.ref fd20)))
    (ld20 : K.lookup fd20 = some ⟨ocd20, odd20, .func (PySem.W.fnOf "put_in" "put_in" (defArgs s_put_in) (defBody s_put_in) (defScope s_put_in) .none kVd20 dcd20 pmd20 and20 cdd20 ctd20), sld20⟩)
    (cd20 : PySem.W.codeIn K cdd20 "put_in" = true)
    (kd20 : PySem.W.keepIn K (.ref fd20) = true)
    (ad21 : PySem.W.nsIn K mainGlobals "put_out" = some (some (.ref fd21)))
    (ld21 : K.lookup fd21 = some ⟨ocd21, odd21, .func (PySem.W.fnOf "put_out" "put_out" (defArgs s_put_out) (defBody s_put_out) (defScope s_put_out) .none kVd21 dcd21 pmd21 and21 cdd21 ctd21), sld21⟩)
    (cd21 : PySem.W.codeIn K cdd21 "put_out" = true)
    (kd21 : PySem.W.keepIn K (.ref fd21) = true)
    (ad22 : PySem.W.nsIn K mainGlobals "common" = some (some (.ref fd22)))
    (ld22 : K.lookup fd22 = some ⟨ocd22, odd22, .func (PySem.W.fnOf "common" "common" (defArgs s_common) (defBody s_common) (defScope s_common) .none kVd22 dcd22 pmd22 and22 cdd22 ctd22), sld22⟩)
    (cd22 : PySem.W.codeIn K cdd22 "common" = true)
    (kd22 : PySem.W.keepIn K (.ref fd22) = true)
    (ad23 : PySem.W.nsIn K mainGlobals "ratio" = some (some (.ref fd23)))
    (ld23 : K.lookup fd23 = some ⟨ocd23, odd23, .func (PySem.W.fnOf "ratio" "ratio" (defArgs s_ratio) (defBody s_ratio) (defScope s_ratio) (.ref Td23) kVd23 dcd23 pmd23 and23 cdd23 ctd23), sld23⟩)
    (cd23 : PySem.W.codeIn K cdd23 "ratio" = true)
    (kd23 : PySem.W.keepIn K (.ref fd23) = true)
    (td23 : K.lookup Td23 = some ⟨.type "tuple", todd23, .seq #[.int 1 ttd23] tnd23, tsld23⟩)
    (ad24 : PySem.W.nsIn K mainGlobals "plus" = some (some (.ref fd24)))
    (ld24 : K.lookup fd24 = some ⟨ocd24, odd24, .func (PySem.W.fnOf "plus" "plus" (defArgs s_plus) (defBody s_plus) (defScope s_plus) .none kVd24 dcd24 pmd24 and24 cdd24 ctd24), sld24⟩)
    (cd24 : PySem.W.codeIn K cdd24 "plus" = true)
    (kd24 : PySem.W.keepIn K (.ref fd24) = true)
    (ad25 : PySem.W.nsIn K mainGlobals "minus" = some (some (.ref fd25)))
    (ld25 : K.lookup fd25 = some ⟨ocd25, odd25, .func (PySem.W.fnOf "minus" "minus" (defArgs s_minus) (defBody s_minus) (defScope s_minus) .none kVd25 dcd25 pmd25 and25 cdd25 ctd25), sld25⟩)
    (cd25 : PySem.W.codeIn K cdd25 "minus" = true)
    (kd25 : PySem.W.keepIn K (.ref fd25) = true)
    (ad26 : PySem.W.nsIn K mainGlobals "times" = some (some (.ref fd26)))
    (ld26 : K.lookup fd26 = some ⟨ocd26, odd26, .func (PySem.W.fnOf "times" "times" (defArgs s_times) (defBody s_times) (defScope s_times) .none kVd26 dcd26 pmd26 and26 cdd26 ctd26), sld26⟩)
    (cd26 : PySem.W.codeIn K cdd26 "times" = true)
    (kd26 : PySem.W.keepIn K (.ref fd26) = true)
    (ad27 : PySem.W.nsIn K mainGlobals "raised" = some (some (.ref fd27)))
    (ld27 : K.lookup fd27 = some ⟨ocd27, odd27, .func (PySem.W.fnOf "raised" "raised" (defArgs s_raised) (defBody s_raised) (defScope s_raised) .none kVd27 dcd27 pmd27 and27 cdd27 ctd27), sld27⟩)
    (cd27 : PySem.W.codeIn K cdd27 "raised" = true)
    (kd27 : PySem.W.keepIn K (.ref fd27) = true)
    (ad28 : PySem.W.nsIn K mainGlobals "power" = some (some (.ref fd28)))
    (ld28 : K.lookup fd28 = some ⟨ocd28, odd28, .func (PySem.W.fnOf "power" "power" (defArgs s_power) (defBody s_power) (defScope s_power) .none kVd28 dcd28 pmd28 and28 cdd28 ctd28), sld28⟩)
    (cd28 : PySem.W.codeIn K cdd28 "power" = true)
    (kd28 : PySem.W.keepIn K (.ref fd28) = true)
    (ad29 : PySem.W.nsIn K mainGlobals "total" = some (some (.ref fd29)))
    (ld29 : K.lookup fd29 = some ⟨ocd29, odd29, .func (PySem.W.fnOf "total" "total" (defArgs s_total) (defBody s_total) (defScope s_total) .none kVd29 dcd29 pmd29 and29 cdd29 ctd29), sld29⟩)
    (cd29 : PySem.W.codeIn K cdd29 "total" = true)
    (kd29 : PySem.W.keepIn K (.ref fd29) = true)
    (ad30 : PySem.W.nsIn K mainGlobals "is_less" = some (some (.ref fd30)))
    (ld30 : K.lookup fd30 = some ⟨ocd30, odd30, .func (PySem.W.fnOf "is_less" "is_less" (defArgs s_is_less) (defBody s_is_less) (defScope s_is_less) .none kVd30 dcd30 pmd30 and30 cdd30 ctd30), sld30⟩)
    (cd30 : PySem.W.codeIn K cdd30 "is_less" = true)
    (kd30 : PySem.W.keepIn K (.ref fd30) = true)
    (ad31 : PySem.W.nsIn K mainGlobals "look_finite" = some (some (.ref fd31)))
    (ld31 : K.lookup fd31 = some ⟨ocd31, odd31, .func (PySem.W.fnOf "look_finite" "look_finite" (defArgs s_look_finite) (defBody s_look_finite) (defScope s_look_finite) .none kVd31 dcd31 pmd31 and31 cdd31 ctd31), sld31⟩)
    (cd31 : PySem.W.codeIn K cdd31 "look_finite" = true)
    (kd31 : PySem.W.keepIn K (.ref fd31) = true)
    (ad32 : PySem.W.nsIn K mainGlobals "look_unlike" = some (some (.ref fd32)))
    (ld32 : K.lookup fd32 = some ⟨ocd32, odd32, .func (PySem.W.fnOf "look_unlike" "look_unlike" (defArgs s_look_unlike) (defBody s_look_unlike) (defScope s_look_unlike) .none kVd32 dcd32 pmd32 and32 cdd32 ctd32), sld32⟩)
    (cd32 : PySem.W.codeIn K cdd32 "look_unlike" = true)
    (kd32 : PySem.W.keepIn K (.ref fd32) = true)
    (ad33 : PySem.W.nsIn K mainGlobals "share_of" = some (some (.ref fd33)))
    (ld33 : K.lookup fd33 = some ⟨ocd33, odd33, .func (PySem.W.fnOf "share_of" "share_of" (defArgs s_share_of) (defBody s_share_of) (defScope s_share_of) .none kVd33 dcd33 pmd33 and33 cdd33 ctd33), sld33⟩)
    (cd33 : PySem.W.codeIn K cdd33 "share_of" = true)
    (kd33 : PySem.W.keepIn K (.ref fd33) = true)
    (ad34 : PySem.W.nsIn K mainGlobals "fresh" = some (some (.ref fd34)))
    (ld34 : K.lookup fd34 = some ⟨ocd34, odd34, .func (PySem.W.fnOf "fresh" "fresh" (defArgs s_fresh) (defBody s_fresh) (defScope s_fresh) .none kVd34 dcd34 pmd34 and34 cdd34 ctd34), sld34⟩)
    (cd34 : PySem.W.codeIn K cdd34 "fresh" = true)
    (kd34 : PySem.W.keepIn K (.ref fd34) = true)
    (ad35 : PySem.W.nsIn K mainGlobals "after" = some (some (.ref fd35)))
    (ld35 : K.lookup fd35 = some ⟨ocd35, odd35, .func (PySem.W.fnOf "after" "after" (defArgs s_after) (defBody s_after) (defScope s_after) .none kVd35 dcd35 pmd35 and35 cdd35 ctd35), sld35⟩)
    (cd35 : PySem.W.codeIn K cdd35 "after" = true)
    (kd35 : PySem.W.keepIn K (.ref fd35) = true)
    (ad36 : PySem.W.nsIn K mainGlobals "behind_act" = some (some (.ref fd36)))
    (ld36 : K.lookup fd36 = some ⟨ocd36, odd36, .func (PySem.W.fnOf "behind_act" "behind_act" (defArgs s_behind_act) (defBody s_behind_act) (defScope s_behind_act) .none kVd36 dcd36 pmd36 and36 cdd36 ctd36), sld36⟩)
    (cd36 : PySem.W.codeIn K cdd36 "behind_act" = true)
    (kd36 : PySem.W.keepIn K (.ref fd36) = true)
    (ad37 : PySem.W.nsIn K mainGlobals "led" = some (some (.ref fd37)))
    (ld37 : K.lookup fd37 = some ⟨ocd37, odd37, .func (PySem.W.fnOf "led" "led" (defArgs s_led) (defBody s_led) (defScope s_led) .none kVd37 dcd37 pmd37 and37 cdd37 ctd37), sld37⟩)
    (cd37 : PySem.W.codeIn K cdd37 "led" = true)
    (kd37 : PySem.W.keepIn K (.ref fd37) = true)
    (ad38 : PySem.W.nsIn K mainGlobals "mean_of" = some (some (.ref fd38)))
    (ld38 : K.lookup fd38 = some ⟨ocd38, odd38, .func (PySem.W.fnOf "mean_of" "mean_of" (defArgs s_mean_of) (defBody s_mean_of) (defScope s_mean_of) .none kVd38 dcd38 pmd38 and38 cdd38 ctd38), sld38⟩)
    (cd38 : PySem.W.codeIn K cdd38 "mean_of" = true)
    (kd38 : PySem.W.keepIn K (.ref fd38) = true)
    (ad39 : PySem.W.nsIn K mainGlobals "looker" = some (some (.ref fd39)))
    (ld39 : K.lookup fd39 = some ⟨ocd39, odd39, .func (PySem.W.fnOf "looker" "looker" (defArgs s_looker) (defBody s_looker) (defScope s_looker) .none kVd39 dcd39 pmd39 and39 cdd39 ctd39), sld39⟩)
    (cd39 : PySem.W.codeIn K cdd39 "looker" = true)
    (kd39 : PySem.W.keepIn K (.ref fd39) = true)
    (ad40 : PySem.W.nsIn K mainGlobals "choices" = some (some (.ref fd40)))
    (ld40 : K.lookup fd40 = some ⟨ocd40, odd40, .func (PySem.W.fnOf "choices" "choices" (defArgs s_choices) (defBody s_choices) (defScope s_choices) .none kVd40 dcd40 pmd40 and40 cdd40 ctd40), sld40⟩)
    (cd40 : PySem.W.codeIn K cdd40 "choices" = true)
    (kd40 : PySem.W.keepIn K (.ref fd40) = true)
    (ad41 : PySem.W.nsIn K mainGlobals "blind_looker" = some (some (.ref fd41)))
    (ld41 : K.lookup fd41 = some ⟨ocd41, odd41, .func (PySem.W.fnOf "blind_looker" "blind_looker" (defArgs s_blind_looker) (defBody s_blind_looker) (defScope s_blind_looker) .none kVd41 dcd41 pmd41 and41 cdd41 ctd41), sld41⟩)
    (cd41 : PySem.W.codeIn K cdd41 "blind_looker" = true)
    (kd41 : PySem.W.keepIn K (.ref fd41) = true)
    (ad42 : PySem.W.nsIn K mainGlobals "_law_purse" = some (some (.ref fd42)))
    (ld42 : K.lookup fd42 = some ⟨ocd42, odd42, .func (PySem.W.fnOf "_law_purse" "_law_purse" (defArgs s_law_purse) (defBody s_law_purse) (defScope s_law_purse) .none kVd42 dcd42 pmd42 and42 cdd42 ctd42), sld42⟩)
    (cd42 : PySem.W.codeIn K cdd42 "_law_purse" = true)
    (kd42 : PySem.W.keepIn K (.ref fd42) = true)
    (ad43 : PySem.W.nsIn K mainGlobals "_law_coin" = some (some (.ref fd43)))
    (ld43 : K.lookup fd43 = some ⟨ocd43, odd43, .func (PySem.W.fnOf "_law_coin" "_law_coin" (defArgs s_law_coin) (defBody s_law_coin) (defScope s_law_coin) .none kVd43 dcd43 pmd43 and43 cdd43 ctd43), sld43⟩)
    (cd43 : PySem.W.codeIn K cdd43 "_law_coin" = true)
    (kd43 : PySem.W.keepIn K (.ref fd43) = true)
    (ad44 : PySem.W.nsIn K mainGlobals "_law_pick" = some (some (.ref fd44)))
    (ld44 : K.lookup fd44 = some ⟨ocd44, odd44, .func (PySem.W.fnOf "_law_pick" "_law_pick" (defArgs s_law_pick) (defBody s_law_pick) (defScope s_law_pick) .none kVd44 dcd44 pmd44 and44 cdd44 ctd44), sld44⟩)
    (cd44 : PySem.W.codeIn K cdd44 "_law_pick" = true)
    (kd44 : PySem.W.keepIn K (.ref fd44) = true)
    (ad45 : PySem.W.nsIn K mainGlobals "_law_common" = some (some (.ref fd45)))
    (ld45 : K.lookup fd45 = some ⟨ocd45, odd45, .func (PySem.W.fnOf "_law_common" "_law_common" (defArgs s_law_common) (defBody s_law_common) (defScope s_law_common) .none kVd45 dcd45 pmd45 and45 cdd45 ctd45), sld45⟩)
    (cd45 : PySem.W.codeIn K cdd45 "_law_common" = true)
    (kd45 : PySem.W.keepIn K (.ref fd45) = true)
    (ad46 : PySem.W.nsIn K mainGlobals "_law_frac" = some (some (.ref fd46)))
    (ld46 : K.lookup fd46 = some ⟨ocd46, odd46, .func (PySem.W.fnOf "_law_frac" "_law_frac" (defArgs s_law_frac) (defBody s_law_frac) (defScope s_law_frac) .none kVd46 dcd46 pmd46 and46 cdd46 ctd46), sld46⟩)
    (cd46 : PySem.W.codeIn K cdd46 "_law_frac" = true)
    (kd46 : PySem.W.keepIn K (.ref fd46) = true)
    (ad47 : PySem.W.nsIn K mainGlobals "_law_sum" = some (some (.ref fd47)))
    (ld47 : K.lookup fd47 = some ⟨ocd47, odd47, .func (PySem.W.fnOf "_law_sum" "_law_sum" (defArgs s_law_sum) (defBody s_law_sum) (defScope s_law_sum) .none kVd47 dcd47 pmd47 and47 cdd47 ctd47), sld47⟩)
    (cd47 : PySem.W.codeIn K cdd47 "_law_sum" = true)
    (kd47 : PySem.W.keepIn K (.ref fd47) = true)
    (ad48 : PySem.W.nsIn K mainGlobals "_law_product" = some (some (.ref fd48)))
    (ld48 : K.lookup fd48 = some ⟨ocd48, odd48, .func (PySem.W.fnOf "_law_product" "_law_product" (defArgs s_law_product) (defBody s_law_product) (defScope s_law_product) .none kVd48 dcd48 pmd48 and48 cdd48 ctd48), sld48⟩)
    (cd48 : PySem.W.codeIn K cdd48 "_law_product" = true)
    (kd48 : PySem.W.keepIn K (.ref fd48) = true)
    (ad49 : PySem.W.nsIn K mainGlobals "_law_odds" = some (some (.ref fd49)))
    (ld49 : K.lookup fd49 = some ⟨ocd49, odd49, .func (PySem.W.fnOf "_law_odds" "_law_odds" (defArgs s_law_odds) (defBody s_law_odds) (defScope s_law_odds) .none kVd49 dcd49 pmd49 and49 cdd49 ctd49), sld49⟩)
    (cd49 : PySem.W.codeIn K cdd49 "_law_odds" = true)
    (kd49 : PySem.W.keepIn K (.ref fd49) = true)
    (ad50 : PySem.W.nsIn K mainGlobals "_law_compares" = some (some (.ref fd50)))
    (ld50 : K.lookup fd50 = some ⟨ocd50, odd50, .func (PySem.W.fnOf "_law_compares" "_law_compares" (defArgs s_law_compares) (defBody s_law_compares) (defScope s_law_compares) .none kVd50 dcd50 pmd50 and50 cdd50 ctd50), sld50⟩)
    (cd50 : PySem.W.codeIn K cdd50 "_law_compares" = true)
    (kd50 : PySem.W.keepIn K (.ref fd50) = true)
    (ad51 : PySem.W.nsIn K mainGlobals "_law_end" = some (some (.ref fd51)))
    (ld51 : K.lookup fd51 = some ⟨ocd51, odd51, .func (PySem.W.fnOf "_law_end" "_law_end" (defArgs s_law_end) (defBody s_law_end) (defScope s_law_end) .none kVd51 dcd51 pmd51 and51 cdd51 ctd51), sld51⟩)
    (cd51 : PySem.W.codeIn K cdd51 "_law_end" = true)
    (kd51 : PySem.W.keepIn K (.ref fd51) = true)
    (ad52 : PySem.W.nsIn K mainGlobals "_law_grown" = some (some (.ref fd52)))
    (ld52 : K.lookup fd52 = some ⟨ocd52, odd52, .func (PySem.W.fnOf "_law_grown" "_law_grown" (defArgs s_law_grown) (defBody s_law_grown) (defScope s_law_grown) .none kVd52 dcd52 pmd52 and52 cdd52 ctd52), sld52⟩)
    (cd52 : PySem.W.codeIn K cdd52 "_law_grown" = true)
    (kd52 : PySem.W.keepIn K (.ref fd52) = true)
    (ad53 : PySem.W.nsIn K mainGlobals "_law_put" = some (some (.ref fd53)))
    (ld53 : K.lookup fd53 = some ⟨ocd53, odd53, .func (PySem.W.fnOf "_law_put" "_law_put" (defArgs s_law_put) (defBody s_law_put) (defScope s_law_put) .none kVd53 dcd53 pmd53 and53 cdd53 ctd53), sld53⟩)
    (cd53 : PySem.W.codeIn K cdd53 "_law_put" = true)
    (kd53 : PySem.W.keepIn K (.ref fd53) = true)
    (ad54 : PySem.W.nsIn K mainGlobals "_law_gone" = some (some (.ref fd54)))
    (ld54 : K.lookup fd54 = some ⟨ocd54, odd54, .func (PySem.W.fnOf "_law_gone" "_law_gone" (defArgs s_law_gone) (defBody s_law_gone) (defScope s_law_gone) .none kVd54 dcd54 pmd54 and54 cdd54 ctd54), sld54⟩)
    (cd54 : PySem.W.codeIn K cdd54 "_law_gone" = true)
    (kd54 : PySem.W.keepIn K (.ref fd54) = true)
    (ad55 : PySem.W.nsIn K mainGlobals "_law_less" = some (some (.ref fd55)))
    (ld55 : K.lookup fd55 = some ⟨ocd55, odd55, .func (PySem.W.fnOf "_law_less" "_law_less" (defArgs s_law_less) (defBody s_law_less) (defScope s_law_less) .none kVd55 dcd55 pmd55 and55 cdd55 ctd55), sld55⟩)
    (cd55 : PySem.W.codeIn K cdd55 "_law_less" = true)
    (kd55 : PySem.W.keepIn K (.ref fd55) = true)
    (ad56 : PySem.W.nsIn K mainGlobals "_law_mean" = some (some (.ref fd56)))
    (ld56 : K.lookup fd56 = some ⟨ocd56, odd56, .func (PySem.W.fnOf "_law_mean" "_law_mean" (defArgs s_law_mean) (defBody s_law_mean) (defScope s_law_mean) .none kVd56 dcd56 pmd56 and56 cdd56 ctd56), sld56⟩)
    (cd56 : PySem.W.codeIn K cdd56 "_law_mean" = true)
    (kd56 : PySem.W.keepIn K (.ref fd56) = true)
    (ad57 : PySem.W.nsIn K mainGlobals "_law_value" = some (some (.ref fd57)))
    (ld57 : K.lookup fd57 = some ⟨ocd57, odd57, .func (PySem.W.fnOf "_law_value" "_law_value" (defArgs s_law_value) (defBody s_law_value) (defScope s_law_value) .none kVd57 dcd57 pmd57 and57 cdd57 ctd57), sld57⟩)
    (cd57 : PySem.W.codeIn K cdd57 "_law_value" = true)
    (kd57 : PySem.W.keepIn K (.ref fd57) = true)
    (ad58 : PySem.W.nsIn K mainGlobals "_law_led" = some (some (.ref fd58)))
    (ld58 : K.lookup fd58 = some ⟨ocd58, odd58, .func (PySem.W.fnOf "_law_led" "_law_led" (defArgs s_law_led) (defBody s_law_led) (defScope s_law_led) .none kVd58 dcd58 pmd58 and58 cdd58 ctd58), sld58⟩)
    (cd58 : PySem.W.codeIn K cdd58 "_law_led" = true)
    (kd58 : PySem.W.keepIn K (.ref fd58) = true)
    (ad59 : PySem.W.nsIn K mainGlobals "_law_blind" = some (some (.ref fd59)))
    (ld59 : K.lookup fd59 = some ⟨ocd59, odd59, .func (PySem.W.fnOf "_law_blind" "_law_blind" (defArgs s_law_blind) (defBody s_law_blind) (defScope s_law_blind) .none kVd59 dcd59 pmd59 and59 cdd59 ctd59), sld59⟩)
    (cd59 : PySem.W.codeIn K cdd59 "_law_blind" = true)
    (kd59 : PySem.W.keepIn K (.ref fd59) = true)
    (ad60 : PySem.W.nsIn K mainGlobals "_law_right" = some (some (.ref fd60)))
    (ld60 : K.lookup fd60 = some ⟨ocd60, odd60, .func (PySem.W.fnOf "_law_right" "_law_right" (defArgs s_law_right) (defBody s_law_right) (defScope s_law_right) .none kVd60 dcd60 pmd60 and60 cdd60 ctd60), sld60⟩)
    (cd60 : PySem.W.codeIn K cdd60 "_law_right" = true)
    (kd60 : PySem.W.keepIn K (.ref fd60) = true)
    (ad61 : PySem.W.nsIn K mainGlobals "_law_beyond_right" = some (some (.ref fd61)))
    (ld61 : K.lookup fd61 = some ⟨ocd61, odd61, .func (PySem.W.fnOf "_law_beyond_right" "_law_beyond_right" (defArgs s_law_beyond_right) (defBody s_law_beyond_right) (defScope s_law_beyond_right) .none kVd61 dcd61 pmd61 and61 cdd61 ctd61), sld61⟩)
    (cd61 : PySem.W.codeIn K cdd61 "_law_beyond_right" = true)
    (kd61 : PySem.W.keepIn K (.ref fd61) = true)
    (ad62 : PySem.W.nsIn K mainGlobals "_law_long_right" = some (some (.ref fd62)))
    (ld62 : K.lookup fd62 = some ⟨ocd62, odd62, .func (PySem.W.fnOf "_law_long_right" "_law_long_right" (defArgs s_law_long_right) (defBody s_law_long_right) (defScope s_law_long_right) .none kVd62 dcd62 pmd62 and62 cdd62 ctd62), sld62⟩)
    (cd62 : PySem.W.codeIn K cdd62 "_law_long_right" = true)
    (kd62 : PySem.W.keepIn K (.ref fd62) = true)
    (ad63 : PySem.W.nsIn K mainGlobals "law" = some (some (.ref fd63)))
    (ld63 : K.lookup fd63 = some ⟨ocd63, odd63, .func (PySem.W.fnOf "law" "law" (defArgs s_law) (defBody s_law) (defScope s_law) .none kVd63 dcd63 pmd63 and63 cdd63 ctd63), sld63⟩)
    (cd63 : PySem.W.codeIn K cdd63 "law" = true)
    (kd63 : PySem.W.keepIn K (.ref fd63) = true)
    (aC : PySem.W.nsIn K mainGlobals "Looker" = some (some (.ref C)))
    (pg : PySem.W.plainGet K C Str.empty = true)
    (hd : PySem.W.hasDictIn K C = true)
    (po : PySem.W.plainOver K C = true)
    (sa : PySem.W.findIn K (.ref C) "__setattr__" = some (some (.builtin "object.__setattr__")))
    (mk : PySem.W.makesIn K C = true)
    (kc : PySem.W.keepIn K (.ref C) = true)
    (am0 : PySem.W.findIn K (.ref C) "__init__" = some (some (.ref fm0)))
    (im0 : PySem.W.isFn K (.ref fm0) = true)
    (lm0 : K.lookup fm0 = some ⟨ocm0, odm0, .func (PySem.W.fnOf "__init__" "Looker.__init__" (defArgs s_Looker_init) (defBody s_Looker_init) (defScope s_Looker_init) .none kVm0 dcm0 pmm0 anm0 cdm0 ctm0), slm0⟩)
    (cm0 : PySem.W.codeIn K cdm0 "Looker.__init__" = true)
    (km0 : PySem.W.keepIn K (.ref fm0) = true)
    (am1 : PySem.W.findIn K (.ref C) "deeds_in" = some (some (.ref fm1)))
    (im1 : PySem.W.isFn K (.ref fm1) = true)
    (lm1 : K.lookup fm1 = some ⟨ocm1, odm1, .func (PySem.W.fnOf "deeds_in" "Looker.deeds_in" (defArgs s_Looker_deeds_in) (defBody s_Looker_deeds_in) (defScope s_Looker_deeds_in) .none kVm1 dcm1 pmm1 anm1 cdm1 ctm1), slm1⟩)
    (cm1 : PySem.W.codeIn K cdm1 "Looker.deeds_in" = true)
    (km1 : PySem.W.keepIn K (.ref fm1) = true)
    (am2 : PySem.W.findIn K (.ref C) "best" = some (some (.ref fm2)))
    (im2 : PySem.W.isFn K (.ref fm2) = true)
    (lm2 : K.lookup fm2 = some ⟨ocm2, odm2, .func (PySem.W.fnOf "best" "Looker.best" (defArgs s_Looker_best) (defBody s_Looker_best) (defScope s_Looker_best) .none kVm2 dcm2 pmm2 anm2 cdm2 ctm2), slm2⟩)
    (cm2 : PySem.W.codeIn K cdm2 "Looker.best" = true)
    (km2 : PySem.W.keepIn K (.ref fm2) = true)
    (nown : PySem.W.findIn K (.ref C) "own" = some none)
    (ngoal : PySem.W.findIn K (.ref C) "goal" = some none)
    (nmanner : PySem.W.findIn K (.ref C) "manner" = some none)
    (nchance : PySem.W.findIn K (.ref C) "chance" = some none)
    (nrule : PySem.W.findIn K (.ref C) "rule" = some none)
    (nmemo : PySem.W.findIn K (.ref C) "memo" = some none)
    (co0 : PySem.W.nsIn K mainGlobals "MOST_CAP_coins" = some (some (.int 64 tc0)))
    (co1 : PySem.W.nsIn K mainGlobals "MOST_BELOW" = some (some (.int 1000 tc1)))
    (co2 : PySem.W.nsIn K mainGlobals "MOST_TOWERS" = some (some (.int 5000 tc2)))
    (co3 : PySem.W.nsIn K mainGlobals "MOST_DEEDS" = some (some (.int 8 tc3)))
    (co4 : PySem.W.nsIn K mainGlobals "MOST_CAP_plans" = some (some (.int 3 tc4)))
    (tM : PySem.W.nsIn K mainGlobals "MANNERS" = some (some (.ref aT)))
    (tL : K.lookup aT = some ⟨.type "tuple", none, .seq #[.str "plain" tu1, .str "lean" tu2, .str "early" tu3, .str "sharp" tu4] nT, slT⟩)
    (z0 : PySem.W.nsIn K mainGlobals "len" = some none)
    (z1 : PySem.W.nsIn K mainGlobals "abs" = some none)
    (z2 : PySem.W.nsIn K mainGlobals "min" = some none)
    (z3 : PySem.W.nsIn K mainGlobals "max" = some none)
    (z4 : PySem.W.nsIn K mainGlobals "sum" = some none)
    (z5 : PySem.W.nsIn K mainGlobals "sorted" = some none)
    (z6 : PySem.W.nsIn K mainGlobals "isinstance" = some none)
    (z7 : PySem.W.nsIn K mainGlobals "enumerate" = some none)
    (z8 : PySem.W.nsIn K mainGlobals "int" = some none)
    (z9 : PySem.W.nsIn K mainGlobals "bool" = some none)
    (z10 : PySem.W.nsIn K mainGlobals "str" = some none)
    (z11 : PySem.W.nsIn K mainGlobals "list" = some none)
    (z12 : PySem.W.nsIn K mainGlobals "tuple" = some none)
    (z13 : PySem.W.nsIn K mainGlobals "dict" = some none)
    (z14 : PySem.W.nsIn K mainGlobals "range" = some none) :
    ∃ fd : FuncData, (∀ (s : Shared) (v : Value), BindsTo s fd ⟨[v], []⟩ [("_law_script", v)]) ∧ ∀ base : Heap, K.In base → base.Ns mainGlobals mg → FnOk l.prog w K mg base CX0 20 fa fd ["_law_script"] (spLaw K) := by
  have e := hfa.symm.trans (PySem.W.mg_of X G ad63)
  cases e
  have Fd6 : FunD K "look_from" "look_from" (defArgs s_look_from) (defBody s_look_from) (defScope s_look_from) [.non] [] fd6 _ := ⟨⟨_, _, _, _, _, _, _, _, _, _, rfl, ld6, cd6, .inr ⟨List.cons_ne_nil _ _, Td6, _, [.none], _, rfl, td6, rfl, .cons rfl .nil⟩, .inl rfl⟩, kd6⟩
  obtain ⟨dsd6, vd6, bd6⟩ := Fd6.binds1 (ps := p_look_from) 3 1 (List.cons_ne_nil _ _) rfl fun T kV doc pm an cdv ct us its h1 h2 => match us, its, h1, h2 with | [_, _, _], [_], _, _ => ⟨_, rfl, rfl⟩
  cases vd6
  have Fd23 : FunD K "ratio" "ratio" (defArgs s_ratio) (defBody s_ratio) (defScope s_ratio) [.int 1] [] fd23 _ := ⟨⟨_, _, _, _, _, _, _, _, _, _, rfl, ld23, cd23, .inr ⟨List.cons_ne_nil _ _, Td23, _, [.int 1 ttd23], _, rfl, td23, rfl, .cons ⟨_, rfl⟩ .nil⟩, .inl rfl⟩, kd23⟩
  obtain ⟨dsd23, vd23, bd23⟩ := Fd23.binds1 (ps := p_ratio) 2 1 (List.cons_ne_nil _ _) rfl fun T kV doc pm an cdv ct us its h1 h2 => match us, its, h1, h2 with | [_, _], [_], _, _ => ⟨_, rfl, rfl⟩
  cases vd23
  let T : Txt K mg := {
    is_integer := ⟨_, _, ⟨⟨_, _, _, _, _, _, _, _, _, _, rfl, ld0, cd0⟩, kd0⟩, PySem.W.mg_of X G ad0, .all fun us hl => match us, hl with | [_], _ => rfl⟩
    is_row := ⟨_, _, ⟨⟨_, _, _, _, _, _, _, _, _, _, rfl, ld1, cd1⟩, kd1⟩, PySem.W.mg_of X G ad1, .all fun us hl => match us, hl with | [_], _ => rfl⟩
    is_pair := ⟨_, _, ⟨⟨_, _, _, _, _, _, _, _, _, _, rfl, ld2, cd2⟩, kd2⟩, PySem.W.mg_of X G ad2, .all fun us hl => match us, hl with | [_], _ => rfl⟩
    wrong_at := ⟨_, _, ⟨⟨_, _, _, _, _, _, _, _, _, _, rfl, ld3, cd3⟩, kd3⟩, PySem.W.mg_of X G ad3, .all fun us hl => match us, hl with | [_], _ => rfl⟩
    checked := ⟨_, _, ⟨⟨_, _, _, _, _, _, _, _, _, _, rfl, ld4, cd4⟩, kd4⟩, PySem.W.mg_of X G ad4, .all fun us hl => match us, hl with | [_], _ => rfl⟩
    look_key := ⟨_, _, ⟨⟨_, _, _, _, _, _, _, _, _, _, rfl, ld5, cd5⟩, kd5⟩, PySem.W.mg_of X G ad5, .all fun us hl => match us, hl with | [_], _ => rfl⟩
    look_from := ⟨_, _, ⟨⟨_, _, _, _, _, _, _, _, _, _, rfl, ld6, cd6⟩, kd6⟩, PySem.W.mg_of X G ad6, bd6⟩
    highest := ⟨_, _, ⟨⟨_, _, _, _, _, _, _, _, _, _, rfl, ld7, cd7⟩, kd7⟩, PySem.W.mg_of X G ad7, .all fun us hl => match us, hl with | [_], _ => rfl⟩
    is_rule := ⟨_, _, ⟨⟨_, _, _, _, _, _, _, _, _, _, rfl, ld8, cd8⟩, kd8⟩, PySem.W.mg_of X G ad8, .all fun us hl => match us, hl with | [_], _ => rfl⟩
    look_rule := ⟨_, _, ⟨⟨_, _, _, _, _, _, _, _, _, _, rfl, ld9, cd9⟩, kd9⟩, PySem.W.mg_of X G ad9, .all fun us hl => match us, hl with | [_], _ => rfl⟩
    is_chance := ⟨_, _, ⟨⟨_, _, _, _, _, _, _, _, _, _, rfl, ld10, cd10⟩, kd10⟩, PySem.W.mg_of X G ad10, .all fun us hl => match us, hl with | [_], _ => rfl⟩
    look_chance := ⟨_, _, ⟨⟨_, _, _, _, _, _, _, _, _, _, rfl, ld11, cd11⟩, kd11⟩, PySem.W.mg_of X G ad11, .all fun us hl => match us, hl with | [_], _ => rfl⟩
    limit := ⟨_, _, ⟨⟨_, _, _, _, _, _, _, _, _, _, rfl, ld12, cd12⟩, kd12⟩, PySem.W.mg_of X G ad12, .all fun us hl => match us, hl with | [_, _], _ => rfl⟩
    look_manner := ⟨_, _, ⟨⟨_, _, _, _, _, _, _, _, _, _, rfl, ld13, cd13⟩, kd13⟩, PySem.W.mg_of X G ad13, .all fun us hl => match us, hl with | [_], _ => rfl⟩
    is_early := ⟨_, _, ⟨⟨_, _, _, _, _, _, _, _, _, _, rfl, ld14, cd14⟩, kd14⟩, PySem.W.mg_of X G ad14, .all fun us hl => match us, hl with | [_], _ => rfl⟩
    is_lean := ⟨_, _, ⟨⟨_, _, _, _, _, _, _, _, _, _, rfl, ld15, cd15⟩, kd15⟩, PySem.W.mg_of X G ad15, .all fun us hl => match us, hl with | [_], _ => rfl⟩
    next_place := ⟨_, _, ⟨⟨_, _, _, _, _, _, _, _, _, _, rfl, ld16, cd16⟩, kd16⟩, PySem.W.mg_of X G ad16, .all fun us hl => match us, hl with | [_, _, _], _ => rfl⟩
    walked := ⟨_, _, ⟨⟨_, _, _, _, _, _, _, _, _, _, rfl, ld17, cd17⟩, kd17⟩, PySem.W.mg_of X G ad17, .all fun us hl => match us, hl with | [_, _, _, _], _ => rfl⟩
    priced := ⟨_, _, ⟨⟨_, _, _, _, _, _, _, _, _, _, rfl, ld18, cd18⟩, kd18⟩, PySem.W.mg_of X G ad18, .all fun us hl => match us, hl with | [_, _], _ => rfl⟩
    cost_in := ⟨_, _, ⟨⟨_, _, _, _, _, _, _, _, _, _, rfl, ld19, cd19⟩, kd19⟩, PySem.W.mg_of X G ad19, .all fun us hl => match us, hl with | [_, _, _], _ => rfl⟩
    put_in := ⟨_, _, ⟨⟨_, _, _, _, _, _, _, _, _, _, rfl, ld20, cd20⟩, kd20⟩, PySem.W.mg_of X G ad20, .all fun us hl => match us, hl with | [_, _, _], _ => rfl⟩
    put_out := ⟨_, _, ⟨⟨_, _, _, _, _, _, _, _, _, _, rfl, ld21, cd21⟩, kd21⟩, PySem.W.mg_of X G ad21, .all fun us hl => match us, hl with | [_, _], _ => rfl⟩
    common := ⟨_, _, ⟨⟨_, _, _, _, _, _, _, _, _, _, rfl, ld22, cd22⟩, kd22⟩, PySem.W.mg_of X G ad22, .all fun us hl => match us, hl with | [_, _], _ => rfl⟩
    ratio := ⟨_, _, ⟨⟨_, _, _, _, _, _, _, _, _, _, rfl, ld23, cd23⟩, kd23⟩, PySem.W.mg_of X G ad23, bd23⟩
    plus := ⟨_, _, ⟨⟨_, _, _, _, _, _, _, _, _, _, rfl, ld24, cd24⟩, kd24⟩, PySem.W.mg_of X G ad24, .all fun us hl => match us, hl with | [_, _], _ => rfl⟩
    minus := ⟨_, _, ⟨⟨_, _, _, _, _, _, _, _, _, _, rfl, ld25, cd25⟩, kd25⟩, PySem.W.mg_of X G ad25, .all fun us hl => match us, hl with | [_, _], _ => rfl⟩
    times := ⟨_, _, ⟨⟨_, _, _, _, _, _, _, _, _, _, rfl, ld26, cd26⟩, kd26⟩, PySem.W.mg_of X G ad26, .all fun us hl => match us, hl with | [_, _], _ => rfl⟩
    raised := ⟨_, _, ⟨⟨_, _, _, _, _, _, _, _, _, _, rfl, ld27, cd27⟩, kd27⟩, PySem.W.mg_of X G ad27, .all fun us hl => match us, hl with | [_, _], _ => rfl⟩
    power := ⟨_, _, ⟨⟨_, _, _, _, _, _, _, _, _, _, rfl, ld28, cd28⟩, kd28⟩, PySem.W.mg_of X G ad28, .all fun us hl => match us, hl with | [_, _], _ => rfl⟩
    total := ⟨_, _, ⟨⟨_, _, _, _, _, _, _, _, _, _, rfl, ld29, cd29⟩, kd29⟩, PySem.W.mg_of X G ad29, .all fun us hl => match us, hl with | [_], _ => rfl⟩
    is_less := ⟨_, _, ⟨⟨_, _, _, _, _, _, _, _, _, _, rfl, ld30, cd30⟩, kd30⟩, PySem.W.mg_of X G ad30, .all fun us hl => match us, hl with | [_, _], _ => rfl⟩
    look_finite := ⟨_, _, ⟨⟨_, _, _, _, _, _, _, _, _, _, rfl, ld31, cd31⟩, kd31⟩, PySem.W.mg_of X G ad31, .all fun us hl => match us, hl with | [_], _ => rfl⟩
    look_unlike := ⟨_, _, ⟨⟨_, _, _, _, _, _, _, _, _, _, rfl, ld32, cd32⟩, kd32⟩, PySem.W.mg_of X G ad32, .all fun us hl => match us, hl with | [_], _ => rfl⟩
    share_of := ⟨_, _, ⟨⟨_, _, _, _, _, _, _, _, _, _, rfl, ld33, cd33⟩, kd33⟩, PySem.W.mg_of X G ad33, .all fun us hl => match us, hl with | [_, _, _], _ => rfl⟩
    fresh := ⟨_, _, ⟨⟨_, _, _, _, _, _, _, _, _, _, rfl, ld34, cd34⟩, kd34⟩, PySem.W.mg_of X G ad34, .all fun us hl => match us, hl with | [_, _, _, _], _ => rfl⟩
    after := ⟨_, _, ⟨⟨_, _, _, _, _, _, _, _, _, _, rfl, ld35, cd35⟩, kd35⟩, PySem.W.mg_of X G ad35, .all fun us hl => match us, hl with | [_, _, _, _], _ => rfl⟩
    behind_act := ⟨_, _, ⟨⟨_, _, _, _, _, _, _, _, _, _, rfl, ld36, cd36⟩, kd36⟩, PySem.W.mg_of X G ad36, .all fun us hl => match us, hl with | [_, _, _, _], _ => rfl⟩
    led := ⟨_, _, ⟨⟨_, _, _, _, _, _, _, _, _, _, rfl, ld37, cd37⟩, kd37⟩, PySem.W.mg_of X G ad37, .all fun us hl => match us, hl with | [_, _, _, _], _ => rfl⟩
    mean_of := ⟨_, _, ⟨⟨_, _, _, _, _, _, _, _, _, _, rfl, ld38, cd38⟩, kd38⟩, PySem.W.mg_of X G ad38, .all fun us hl => match us, hl with | [_, _, _], _ => rfl⟩
    looker := ⟨_, _, ⟨⟨_, _, _, _, _, _, _, _, _, _, rfl, ld39, cd39⟩, kd39⟩, PySem.W.mg_of X G ad39, .all fun us hl => match us, hl with | [_, _, _, _, _, _, _], _ => rfl⟩
    choices := ⟨_, _, ⟨⟨_, _, _, _, _, _, _, _, _, _, rfl, ld40, cd40⟩, kd40⟩, PySem.W.mg_of X G ad40, .all fun us hl => match us, hl with | [_, _, _], _ => rfl⟩
    blind_looker := ⟨_, _, ⟨⟨_, _, _, _, _, _, _, _, _, _, rfl, ld41, cd41⟩, kd41⟩, PySem.W.mg_of X G ad41, .all fun us hl => match us, hl with | [_, _, _, _, _, _, _], _ => rfl⟩
    law_purse := ⟨_, _, ⟨⟨_, _, _, _, _, _, _, _, _, _, rfl, ld42, cd42⟩, kd42⟩, PySem.W.mg_of X G ad42, .all fun us hl => match us, hl with | [_], _ => rfl⟩
    law_coin := ⟨_, _, ⟨⟨_, _, _, _, _, _, _, _, _, _, rfl, ld43, cd43⟩, kd43⟩, PySem.W.mg_of X G ad43, .all fun us hl => match us, hl with | [_, _], _ => rfl⟩
    law_pick := ⟨_, _, ⟨⟨_, _, _, _, _, _, _, _, _, _, rfl, ld44, cd44⟩, kd44⟩, PySem.W.mg_of X G ad44, .all fun us hl => match us, hl with | [_, _], _ => rfl⟩
    law_common := ⟨_, _, ⟨⟨_, _, _, _, _, _, _, _, _, _, rfl, ld45, cd45⟩, kd45⟩, PySem.W.mg_of X G ad45, .all fun us hl => match us, hl with | [_, _], _ => rfl⟩
    law_frac := ⟨_, _, ⟨⟨_, _, _, _, _, _, _, _, _, _, rfl, ld46, cd46⟩, kd46⟩, PySem.W.mg_of X G ad46, .all fun us hl => match us, hl with | [_, _], _ => rfl⟩
    law_sum := ⟨_, _, ⟨⟨_, _, _, _, _, _, _, _, _, _, rfl, ld47, cd47⟩, kd47⟩, PySem.W.mg_of X G ad47, .all fun us hl => match us, hl with | [_], _ => rfl⟩
    law_product := ⟨_, _, ⟨⟨_, _, _, _, _, _, _, _, _, _, rfl, ld48, cd48⟩, kd48⟩, PySem.W.mg_of X G ad48, .all fun us hl => match us, hl with | [_, _], _ => rfl⟩
    law_odds := ⟨_, _, ⟨⟨_, _, _, _, _, _, _, _, _, _, rfl, ld49, cd49⟩, kd49⟩, PySem.W.mg_of X G ad49, .all fun us hl => match us, hl with | [_], _ => rfl⟩
    law_compares := ⟨_, _, ⟨⟨_, _, _, _, _, _, _, _, _, _, rfl, ld50, cd50⟩, kd50⟩, PySem.W.mg_of X G ad50, .all fun us hl => match us, hl with | [_, _, _], _ => rfl⟩
    law_end := ⟨_, _, ⟨⟨_, _, _, _, _, _, _, _, _, _, rfl, ld51, cd51⟩, kd51⟩, PySem.W.mg_of X G ad51, .all fun us hl => match us, hl with | [_, _], _ => rfl⟩
    law_grown := ⟨_, _, ⟨⟨_, _, _, _, _, _, _, _, _, _, rfl, ld52, cd52⟩, kd52⟩, PySem.W.mg_of X G ad52, .all fun us hl => match us, hl with | [_, _], _ => rfl⟩
    law_put := ⟨_, _, ⟨⟨_, _, _, _, _, _, _, _, _, _, rfl, ld53, cd53⟩, kd53⟩, PySem.W.mg_of X G ad53, .all fun us hl => match us, hl with | [_, _, _, _], _ => rfl⟩
    law_gone := ⟨_, _, ⟨⟨_, _, _, _, _, _, _, _, _, _, rfl, ld54, cd54⟩, kd54⟩, PySem.W.mg_of X G ad54, .all fun us hl => match us, hl with | [_, _], _ => rfl⟩
    law_less := ⟨_, _, ⟨⟨_, _, _, _, _, _, _, _, _, _, rfl, ld55, cd55⟩, kd55⟩, PySem.W.mg_of X G ad55, .all fun us hl => match us, hl with | [_, _], _ => rfl⟩
    law_mean := ⟨_, _, ⟨⟨_, _, _, _, _, _, _, _, _, _, rfl, ld56, cd56⟩, kd56⟩, PySem.W.mg_of X G ad56, .all fun us hl => match us, hl with | [_, _, _], _ => rfl⟩
    law_value := ⟨_, _, ⟨⟨_, _, _, _, _, _, _, _, _, _, rfl, ld57, cd57⟩, kd57⟩, PySem.W.mg_of X G ad57, .all fun us hl => match us, hl with | [_, _, _, _, _, _, _], _ => rfl⟩
    law_led := ⟨_, _, ⟨⟨_, _, _, _, _, _, _, _, _, _, rfl, ld58, cd58⟩, kd58⟩, PySem.W.mg_of X G ad58, .all fun us hl => match us, hl with | [_, _, _, _], _ => rfl⟩
    law_blind := ⟨_, _, ⟨⟨_, _, _, _, _, _, _, _, _, _, rfl, ld59, cd59⟩, kd59⟩, PySem.W.mg_of X G ad59, .all fun us hl => match us, hl with | [_, _, _, _, _, _, _], _ => rfl⟩
    law_right := ⟨_, _, ⟨⟨_, _, _, _, _, _, _, _, _, _, rfl, ld60, cd60⟩, kd60⟩, PySem.W.mg_of X G ad60, .all fun us hl => match us, hl with | [_], _ => rfl⟩
    law_beyond_right := ⟨_, _, ⟨⟨_, _, _, _, _, _, _, _, _, _, rfl, ld61, cd61⟩, kd61⟩, PySem.W.mg_of X G ad61, .all fun us hl => match us, hl with | [_], _ => rfl⟩
    law_long_right := ⟨_, _, ⟨⟨_, _, _, _, _, _, _, _, _, _, rfl, ld62, cd62⟩, kd62⟩, PySem.W.mg_of X G ad62, .all fun us hl => match us, hl with | [_], _ => rfl⟩
    law := ⟨_, _, ⟨⟨_, _, _, _, _, _, _, _, _, _, rfl, ld63, cd63⟩, kd63⟩, PySem.W.mg_of X G ad63, .all fun us hl => match us, hl with | [_], _ => rfl⟩
    C := C
    g_Looker := PySem.W.mg_of X G aC
    cl_Looker := ⟨pg, hd, po, sa⟩
    mk_Looker := mk
    kp_Looker := kc
    Looker_init := ⟨_, _, ⟨⟨_, _, _, _, _, _, _, _, _, _, rfl, lm0, cm0⟩, km0⟩, ⟨am0, im0, km0⟩, .all fun us hl => match us, hl with | [_, _, _, _, _, _], _ => rfl⟩
    Looker_deeds_in := ⟨_, _, ⟨⟨_, _, _, _, _, _, _, _, _, _, rfl, lm1, cm1⟩, km1⟩, ⟨am1, im1, km1⟩, .all fun us hl => match us, hl with | [_, _], _ => rfl⟩
    Looker_best := ⟨_, _, ⟨⟨_, _, _, _, _, _, _, _, _, _, rfl, lm2, cm2⟩, km2⟩, ⟨am2, im2, km2⟩, .all fun us hl => match us, hl with | [_, _, _], _ => rfl⟩
    n_own := nown
    n_goal := ngoal
    n_manner := nmanner
    n_chance := nchance
    n_rule := nrule
    n_memo := nmemo
    c_MOST_CAP_coins := ⟨_, PySem.W.mg_of X G co0, rel_int⟩
    c_MOST_BELOW := ⟨_, PySem.W.mg_of X G co1, rel_int⟩
    c_MOST_TOWERS := ⟨_, PySem.W.mg_of X G co2, rel_int⟩
    c_MOST_DEEDS := ⟨_, PySem.W.mg_of X G co3, rel_int⟩
    c_MOST_CAP_plans := ⟨_, PySem.W.mg_of X G co4, rel_int⟩
    c_MANNERS := ⟨aT, PySem.W.mg_of X G tM, fun H => .inr ⟨_, _, _, tL, rfl, rfl, rfl, by show 4 ≤ sizeLine; rw [sizeLine_eq]; omega, .cons ⟨tu1, rfl⟩ (.cons ⟨tu2, rfl⟩ (.cons ⟨tu3, rfl⟩ (.cons ⟨tu4, rfl⟩ .nil)))⟩⟩
    m_len := PySem.W.mg_none_of X G z0
    m_abs := PySem.W.mg_none_of X G z1
    m_min := PySem.W.mg_none_of X G z2
    m_max := PySem.W.mg_none_of X G z3
    m_sum := PySem.W.mg_none_of X G z4
    m_sorted := PySem.W.mg_none_of X G z5
    m_isinstance := PySem.W.mg_none_of X G z6
    m_enumerate := PySem.W.mg_none_of X G z7
    m_int := PySem.W.mg_none_of X G z8
    m_bool := PySem.W.mg_none_of X G z9
    m_str := PySem.W.mg_none_of X G z10
    m_list := PySem.W.mg_none_of X G z11
    m_tuple := PySem.W.mg_none_of X G z12
    m_dict := PySem.W.mg_none_of X G z13
    m_range := PySem.W.mg_none_of X G z14
  }
  exact ⟨PySem.W.fnOf "law" "law" (defArgs s_law) (defBody s_law) (defScope s_law) .none kVd63 dcd63 pmd63 and63 cdd63 ctd63, fun s v => .of_eq rfl, fun base _ _ => ok_law (B := ⟨l.prog, w, K, fun _ => False⟩) (base := base) T⟩
end Tl
end
open PySem PySem.W PyProof.Rows
set_option maxRecDepth 100000
set_option maxHeartbeats 0
theorem PySem.Challenge.cw_tosslanes_k93_whole_lookers_holds : PySem.Challenge.rw_tosslanes_k93_whole_lookers.Holds := by
  w_on; o_law; k_head; (case hw => w_witness2)
  k_fill
  refine L2.walk_of (l := PySem.Challenge.rw_tosslanes_k93_whole_lookers) (n := 63) (k := 20) (x := "_law_script") (CX := fun _ => L2.CX0) (sp := fun w => Tl.spLaw _) rfl (by decide) rfl ⟨rfl, by decide, by decide⟩ (fun w h Y => PySem.W.kIn_of Y) ?F (fun _ _ a ns _ _ hS => ⟨a, ns, rfl, hS, fun _ => rfl⟩) (fun _ _ _ _ _ z => z)
  case F =>
    intro w mg fa h KX G hmg
    refine' Tl.all_mk KX G hmg ?ad0 ?ld0 ?cd0 ?kd0 ?ad1 ?ld1 ?cd1 ?kd1 ?ad2 ?ld2 ?cd2 ?kd2 ?ad3 ?ld3 ?cd3 ?kd3 ?ad4 ?ld4 ?cd4 ?kd4 ?ad5 ?ld5 ?cd5 ?kd5 ?ad6 ?ld6 ?cd6 ?kd6 ?td6 ?ad7 ?ld7 ?cd7 ?kd7 ?ad8 ?ld8 ?cd8 ?kd8 ?ad9 ?ld9 ?cd9 ?kd9 ?ad10 ?ld10 ?cd10 ?kd10 ?ad11 ?ld11 ?cd11 ?kd11 ?ad12 ?ld12 ?cd12 ?kd12 ?ad13 ?ld13 ?cd13 ?kd13 ?ad14 ?ld14 ?cd14 ?kd14 ?ad15 ?ld15 ?cd15 ?kd15 ?ad16 ?ld16 ?cd16 ?kd16 ?ad17 ?ld17 ?cd17 ?kd17 ?ad18 ?ld18 ?cd18 ?kd18 ?ad19 ?ld19 ?cd19 ?kd19 ?ad20 ?ld20 ?cd20 ?kd20 ?ad21 ?ld21 ?cd21 ?kd21 ?ad22 ?ld22 ?cd22 ?kd22 ?ad23 ?ld23 ?cd23 ?kd23 ?td23 ?ad24 ?ld24 ?cd24 ?kd24 ?ad25 ?ld25 ?cd25 ?kd25 ?ad26 ?ld26 ?cd26 ?kd26 ?ad27 ?ld27 ?cd27 ?kd27 ?ad28 ?ld28 ?cd28 ?kd28 ?ad29 ?ld29 ?cd29 ?kd29 ?ad30 ?ld30 ?cd30 ?kd30 ?ad31 ?ld31 ?cd31 ?kd31 ?ad32 ?ld32 ?cd32 ?kd32 ?ad33 ?ld33 ?cd33 ?kd33 ?ad34 ?ld34 ?cd34 ?kd34 ?ad35 ?ld35 ?cd35 ?kd35 ?ad36 ?ld36 ?cd36 ?kd36 ?ad37 ?ld37 ?cd37 ?kd37 ?ad38 ?ld38 ?cd38 ?kd38 ?ad39 ?ld39 ?cd39 ?kd39 ?ad40 ?ld40 ?cd40 ?kd40 ?ad41 ?ld41 ?cd41 ?kd41 ?ad42 ?ld42 ?cd42 ?kd42 ?ad43 ?ld43 ?cd43 ?kd43 ?ad44 ?ld44 ?cd44 ?kd44 ?ad45 ?ld45 ?cd45 ?kd45 ?ad46 ?ld46 ?cd46 ?kd46 ?ad47 ?ld47 ?cd47 ?kd47 ?ad48 ?ld48 ?cd48 ?kd48 ?ad49 ?ld49 ?cd49 ?kd49 ?ad50 ?ld50 ?cd50 ?kd50 ?ad51 ?ld51 ?cd51 ?kd51 ?ad52 ?ld52 ?cd52 ?kd52 ?ad53 ?ld53 ?cd53 ?kd53 ?ad54 ?ld54 ?cd54 ?kd54 ?ad55 ?ld55 ?cd55 ?kd55 ?ad56 ?ld56 ?cd56 ?kd56 ?ad57 ?ld57 ?cd57 ?kd57 ?ad58 ?ld58 ?cd58 ?kd58 ?ad59 ?ld59 ?cd59 ?kd59 ?ad60 ?ld60 ?cd60 ?kd60 ?ad61 ?ld61 ?cd61 ?kd61 ?ad62 ?ld62 ?cd62 ?kd62 ?ad63 ?ld63 ?cd63 ?kd63 ?aC ?pg ?hd ?po ?sa ?mk ?kc ?am0 ?im0 ?lm0 ?cm0 ?km0 ?am1 ?im1 ?lm1 ?cm1 ?km1 ?am2 ?im2 ?lm2 ?cm2 ?km2 ?nown ?ngoal ?nmanner ?nchance ?nrule ?nmemo ?co0 ?co1 ?co2 ?co3 ?co4 ?tM ?tL ?z0 ?z1 ?z2 ?z3 ?z4 ?z5 ?z6 ?z7 ?z8 ?z9 ?z10 ?z11 ?z12 ?z13 ?z14
    (case ad0 => k_is)
    (case ld0 => k_is)
    (case cd0 => k_is)
    (case kd0 => k_is)
    (case ad1 => k_is)
    (case ld1 => k_is)
    (case cd1 => k_is)
    (case kd1 => k_is)
    (case ad2 => k_is)
    (case ld2 => k_is)
    (case cd2 => k_is)
    (case kd2 => k_is)
    (case ad3 => k_is)
    (case ld3 => k_is)
    (case cd3 => k_is)
    (case kd3 => k_is)
    (case ad4 => k_is)
    (case ld4 => k_is)
    (case cd4 => k_is)
    (case kd4 => k_is)
    (case ad5 => k_is)
    (case ld5 => k_is)
    (case cd5 => k_is)
    (case kd5 => k_is)
    (case ad6 => k_is)
    (case ld6 => k_is)
    (case cd6 => k_is)
    (case kd6 => k_is)
    (case td6 => k_is)
    (case ad7 => k_is)
    (case ld7 => k_is)
    (case cd7 => k_is)
    (case kd7 => k_is)
    (case ad8 => k_is)
    (case ld8 => k_is)
    (case cd8 => k_is)
    (case kd8 => k_is)
    (case ad9 => k_is)
    (case ld9 => k_is)
    (case cd9 => k_is)
    (case kd9 => k_is)
    (case ad10 => k_is)
    (case ld10 => k_is)
    (case cd10 => k_is)
    (case kd10 => k_is)
    (case ad11 => k_is)
    (case ld11 => k_is)
    (case cd11 => k_is)
    (case kd11 => k_is)
    (case ad12 => k_is)
    (case ld12 => k_is)
    (case cd12 => k_is)
    (case kd12 => k_is)
    (case ad13 => k_is)
    (case ld13 => k_is)
    (case cd13 => k_is)
    (case kd13 => k_is)
    (case ad14 => k_is)
    (case ld14 => k_is)
    (case cd14 => k_is)
    (case kd14 => k_is)
    (case ad15 => k_is)
    (case ld15 => k_is)
    (case cd15 => k_is)
    (case kd15 => k_is)
    (case ad16 => k_is)
    (case ld16 => k_is)
    (case cd16 => k_is)
    (case kd16 => k_is)
    (case ad17 => k_is)
    (case ld17 => k_is)
    (case cd17 => k_is)
    (case kd17 => k_is)
    (case ad18 => k_is)
    (case ld18 => k_is)
    (case cd18 => k_is)
    (case kd18 => k_is)
    (case ad19 => k_is)
    (case ld19 => k_is)
    (case cd19 => k_is)
    (case kd19 => k_is)
    (case ad20 => k_is)
    (case ld20 => k_is)
    (case cd20 => k_is)
    (case kd20 => k_is)
    (case ad21 => k_is)
    (case ld21 => k_is)
    (case cd21 => k_is)
    (case kd21 => k_is)
    (case ad22 => k_is)
    (case ld22 => k_is)
    (case cd22 => k_is)
    (case kd22 => k_is)
    (case ad23 => k_is)
    (case ld23 => k_is)
    (case cd23 => k_is)
    (case kd23 => k_is)
    (case td23 => k_is)
    (case ad24 => k_is)
    (case ld24 => k_is)
    (case cd24 => k_is)
    (case kd24 => k_is)
    (case ad25 => k_is)
    (case ld25 => k_is)
    (case cd25 => k_is)
    (case kd25 => k_is)
    (case ad26 => k_is)
    (case ld26 => k_is)
    (case cd26 => k_is)
    (case kd26 => k_is)
    (case ad27 => k_is)
    (case ld27 => k_is)
    (case cd27 => k_is)
    (case kd27 => k_is)
    (case ad28 => k_is)
    (case ld28 => k_is)
    (case cd28 => k_is)
    (case kd28 => k_is)
    (case ad29 => k_is)
    (case ld29 => k_is)
    (case cd29 => k_is)
    (case kd29 => k_is)
    (case ad30 => k_is)
    (case ld30 => k_is)
    (case cd30 => k_is)
    (case kd30 => k_is)
    (case ad31 => k_is)
    (case ld31 => k_is)
    (case cd31 => k_is)
    (case kd31 => k_is)
    (case ad32 => k_is)
    (case ld32 => k_is)
    (case cd32 => k_is)
    (case kd32 => k_is)
    (case ad33 => k_is)
    (case ld33 => k_is)
    (case cd33 => k_is)
    (case kd33 => k_is)
    (case ad34 => k_is)
    (case ld34 => k_is)
    (case cd34 => k_is)
    (case kd34 => k_is)
    (case ad35 => k_is)
    (case ld35 => k_is)
    (case cd35 => k_is)
    (case kd35 => k_is)
    (case ad36 => k_is)
    (case ld36 => k_is)
    (case cd36 => k_is)
    (case kd36 => k_is)
    (case ad37 => k_is)
    (case ld37 => k_is)
    (case cd37 => k_is)
    (case kd37 => k_is)
    (case ad38 => k_is)
    (case ld38 => k_is)
    (case cd38 => k_is)
    (case kd38 => k_is)
    (case ad39 => k_is)
    (case ld39 => k_is)
    (case cd39 => k_is)
    (case kd39 => k_is)
    (case ad40 => k_is)
    (case ld40 => k_is)
    (case cd40 => k_is)
    (case kd40 => k_is)
    (case ad41 => k_is)
    (case ld41 => k_is)
    (case cd41 => k_is)
    (case kd41 => k_is)
    (case ad42 => k_is)
    (case ld42 => k_is)
    (case cd42 => k_is)
    (case kd42 => k_is)
    (case ad43 => k_is)
    (case ld43 => k_is)
    (case cd43 => k_is)
    (case kd43 => k_is)
    (case ad44 => k_is)
    (case ld44 => k_is)
    (case cd44 => k_is)
    (case kd44 => k_is)
    (case ad45 => k_is)
    (case ld45 => k_is)
    (case cd45 => k_is)
    (case kd45 => k_is)
    (case ad46 => k_is)
    (case ld46 => k_is)
    (case cd46 => k_is)
    (case kd46 => k_is)
    (case ad47 => k_is)
    (case ld47 => k_is)
    (case cd47 => k_is)
    (case kd47 => k_is)
    (case ad48 => k_is)
    (case ld48 => k_is)
    (case cd48 => k_is)
    (case kd48 => k_is)
    (case ad49 => k_is)
    (case ld49 => k_is)
    (case cd49 => k_is)
    (case kd49 => k_is)
    (case ad50 => k_is)
    (case ld50 => k_is)
    (case cd50 => k_is)
    (case kd50 => k_is)
    (case ad51 => k_is)
    (case ld51 => k_is)
    (case cd51 => k_is)
    (case kd51 => k_is)
    (case ad52 => k_is)
    (case ld52 => k_is)
    (case cd52 => k_is)
    (case kd52 => k_is)
    (case ad53 => k_is)
    (case ld53 => k_is)
    (case cd53 => k_is)
    (case kd53 => k_is)
    (case ad54 => k_is)
    (case ld54 => k_is)
    (case cd54 => k_is)
    (case kd54 => k_is)
    (case ad55 => k_is)
    (case ld55 => k_is)
    (case cd55 => k_is)
    (case kd55 => k_is)
    (case ad56 => k_is)
    (case ld56 => k_is)
    (case cd56 => k_is)
    (case kd56 => k_is)
    (case ad57 => k_is)
    (case ld57 => k_is)
    (case cd57 => k_is)
    (case kd57 => k_is)
    (case ad58 => k_is)
    (case ld58 => k_is)
    (case cd58 => k_is)
    (case kd58 => k_is)
    (case ad59 => k_is)
    (case ld59 => k_is)
    (case cd59 => k_is)
    (case kd59 => k_is)
    (case ad60 => k_is)
    (case ld60 => k_is)
    (case cd60 => k_is)
    (case kd60 => k_is)
    (case ad61 => k_is)
    (case ld61 => k_is)
    (case cd61 => k_is)
    (case kd61 => k_is)
    (case ad62 => k_is)
    (case ld62 => k_is)
    (case cd62 => k_is)
    (case kd62 => k_is)
    (case ad63 => k_is)
    (case ld63 => k_is)
    (case cd63 => k_is)
    (case kd63 => k_is)
    (case aC => k_is)
    (case pg => k_is)
    (case hd => k_is)
    (case po => k_is)
    (case sa => k_is)
    (case mk => k_is)
    (case kc => k_is)
    (case am0 => k_is)
    (case im0 => k_is)
    (case lm0 => k_is)
    (case cm0 => k_is)
    (case km0 => k_is)
    (case am1 => k_is)
    (case im1 => k_is)
    (case lm1 => k_is)
    (case cm1 => k_is)
    (case km1 => k_is)
    (case am2 => k_is)
    (case im2 => k_is)
    (case lm2 => k_is)
    (case cm2 => k_is)
    (case km2 => k_is)
    (case nown => k_is)
    (case ngoal => k_is)
    (case nmanner => k_is)
    (case nchance => k_is)
    (case nrule => k_is)
    (case nmemo => k_is)
    (case co0 => k_is)
    (case co1 => k_is)
    (case co2 => k_is)
    (case co3 => k_is)
    (case co4 => k_is)
    (case tM => k_is)
    (case tL => k_is)
    (case z0 => k_is)
    (case z1 => k_is)
    (case z2 => k_is)
    (case z3 => k_is)
    (case z4 => k_is)
    (case z5 => k_is)
    (case z6 => k_is)
    (case z7 => k_is)
    (case z8 => k_is)
    (case z9 => k_is)
    (case z10 => k_is)
    (case z11 => k_is)
    (case z12 => k_is)
    (case z13 => k_is)
    (case z14 => k_is)
#print axioms PySem.Challenge.cw_tosslanes_k93_whole_lookers_holds
