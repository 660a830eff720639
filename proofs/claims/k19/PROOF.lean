import PyProof.Rows.All
import Wide.All
import OpenK.AllK
import Wide.FinOn
import HandS.ForMost
import HandS.TupAny
import HandS.TupMul
import HandS.Wide
import HandS.IsInst
import HandS.Star
import HandS.Flow
import HandS.Lambda
import PyProof.ListStr
import HandS.NoneIn
import HandS.FStr
import KE.KUnpack
import PyProof.CollectIter
import KE.IntTextLaws
import KE.KStateDown
import Wide.Once
import HandS.Ends
import HandS.Words
import HandS.WordsExc
import HandS.Defaults
import HandS.Head0
import HandS.Head1
import HandS.Head2
import HandS.HeadEnd
import HandS.HeadHook1
import HandS.HeadHook2
import HandS.HeadWalk
import HandS.ClsMeth
import HandS.NestedK
import KE.KSuper
import PySem.Challenge.RW_graincourse_k19_sheets_as_objects
set_option Elab.async false
set_option linter.all false
set_option maxRecDepth 100000
namespace Gh
open PySem PySem.Spec PyProof.Rows L2
section
variable {X : Cx}
/-! ### text * number, tuple * number -/
def repS (x : Str) (n : Nat) : Str := ⟨(List.replicate n x.cps.toList).flatten.toArray⟩
theorem foldl_app (l : List (List Nat)) : ∀ acc : Array Nat, (l.map List.toArray).foldl (· ++ ·) acc = acc ++ l.flatten.toArray := by
  induction l with
  | nil => intro acc; simp
  | cons x r ih =>
    intro acc
    rw [List.map_cons, List.foldl_cons, ih, List.flatten_cons]
    simp
theorem repS_fold (x : Str) (n : Nat) : (⟨(List.replicate n x.cps).foldl (· ++ ·) #[]⟩ : Str) = repS x n := by
  have e : List.replicate n x.cps = (List.replicate n x.cps.toList).map List.toArray := by
    rw [List.map_replicate]
  unfold repS
  rw [e, foldl_app]
  simp
theorem op_mulS : OpR X (binaryOp .Mult) (fun x y H Q => ∃ z n, x = .str z ∧ y = .int n ∧ 0 ≤ n ∧ n ≤ 1000000 ∧ z.length * n.toNat ≤ 1000000 ∧ Q (.str (repS z n.toNat)) H) := by
  intro pins s σ H x y v u Q I rx ry h
  obtain ⟨z, n, rfl, rfl, h0, h1, hz, q⟩ := h
  obtain ⟨t, rfl⟩ := rx
  obtain ⟨t', rfl⟩ := ry
  refine P.mul_str (by rw [decide_eq_false (by omega), decide_eq_false (by omega)]; rfl) (fun c1 c2 => ?_) (fun c1 c2 => ?_) ?_
  · have hn : 0 < n := by omega
    have hq : (1000000 : Int) ≤ (2 ^ 63 - 1) / n := by
      rw [Int.le_ediv_iff_mul_le hn]
      have : 1000000 * n ≤ 1000000 * 1000000 := Int.mul_le_mul_of_nonneg_left h1 (by decide)
      omega
    have h2 : 1 ≤ n.toNat := by omega
    have h3 : z.length ≤ z.length * n.toNat := Nat.le_mul_of_pos_right _ (by omega)
    omega
  · show decide (z.length * n.toNat > sizeLine) = false
    rw [sizeLine_eq]
    exact decide_eq_false (by omega)
  · by_cases c1 : n < 1
    · rw [if_pos c1]
      have e : repS z n.toNat = Str.empty := by
        have : n.toNat = 0 := by omega
        rw [this]
        rfl
      rw [e] at q
      exact ⟨by decide, .str _, H, I.tok _, ⟨_, rfl⟩, q⟩
    · rw [if_neg c1]
      by_cases c2 : (n == 1 || z.length == 0) = true
      · rw [if_pos c2]
        have e : repS z n.toNat = z := by
          have hc : n = 1 ∨ z.length = 0 := by simpa using c2
          rcases hc with rfl | hc
          · show (⟨([z.cps.toList].flatten).toArray⟩ : Str) = z
            simp
          · have hz0 : z.cps = #[] := Array.eq_empty_of_size_eq_zero hc
            cases z with
            | mk cps =>
              simp only at hz0
              subst hz0
              unfold repS
              simp
        rw [e] at q
        exact ⟨.str _, H, I, ⟨_, rfl⟩, q⟩
      · rw [if_neg c2, repS_fold]
        refine ⟨?_, .str _, H, I.tok _, ⟨_, rfl⟩, q⟩
        show _ ≤ sizeLine
        have : (repS z n.toNat).length = z.length * n.toNat := by
          unfold repS Str.length
          simp [Nat.mul_comm]
        rw [this, sizeLine_eq]
        omega

/-- t * 1, () * n: the tuple itself -/
theorem tuple_mulS (l : Addr) (items : Array Value) (n : Nat) (dd : Option Addr) (sl : Array (Option Value)) (x : Int) (u : Tok) (c0 : (decide (x < -(2 ^ 63)) || decide (x ≥ 2 ^ 63)) = false) (c1 : (items.isEmpty || x == 1) = true) :
    Meets (Builtin.«tuple.__mul__» ⟨[.ref l, .int x u], []⟩) (fun _ R s => s.heap.get? l = some { cls := .type "tuple", dict := dd, data := .seq items n, slots := sl } ∧ R (.ok (.ret (Value.ref l))) s) :=
  .of_wp fun prog w A R s h => by
    obtain ⟨hp, g, d, tk, os⟩ := s
    obtain ⟨hl, h⟩ := h
    have f1 := AutoSeq1.idx_int
    wp_walk using wpAny_loadPart' hl
    repeat (first
      | (refine wpAny_ite_false (decide_eq_false (by rw [c0]; exact Bool.false_ne_true)) ?_; wp_walk using wpAny_loadPart' hl)
      | (refine wpAny_ite_true (decide_eq_true c1) ?_; wp_walk using wpAny_loadPart' hl))
    exact ⟨_, rfl, h⟩
def rRepS (K : PySem.W.Frag) : R2 := fun x y H Q => ∃ l k xs, x = .ref l ∧ y = .int k ∧ SqT K H l xs ∧ (xs = [] ∨ k = 1) ∧ 1 ≤ k ∧ k ≤ 1000 ∧ Q (.ref l) H
theorem op_repS : OpR X (binaryOp .Mult) (rRepS X.K) := by
  intro pins s σ H x y v u Q I rx ry h
  obtain ⟨l, k, xs, rfl, rfl, hT, hne, h1, h2, q⟩ := h
  cases rx
  obtain ⟨t, rfl⟩ := ry
  obtain ⟨its, r, ⟨⟨cls, dd, data, sl⟩, ho, hc, n, hd⟩, hs⟩ := I.tuple hT
  simp only at hc hd
  subst hc hd
  have hle : its.length = xs.length := r.length.symm
  have c0 : (decide (k < -(2 ^ 63)) || decide (k ≥ 2 ^ 63)) = false := by
    rw [decide_eq_false (by omega), decide_eq_false (by omega)] <;> rfl
  have c1 : (its.toArray.isEmpty || k == 1) = true := by
    rcases hne with z | z
    · rw [z] at hle
      have : its = [] := List.eq_nil_of_length_eq_zero hle
      rw [this]
      rfl
    · rw [z]
      simp
  exact wpAny_binaryOp_repeat_ref (T := "tuple") (U := "int") (by decide) ⟨_, ho, rfl⟩ (fun s' => typeIs_int s' k t) noFill_tuple_mul F.fills_int_mul F.slot_int_rmul repeat_tuple F.slot_int_index.lookup
    (call_meets F.slot_int_rmul (typeIs_int s k t) F.entry_int_rmul (F.args_int_rmul_2 _ _) (int_rmul_tuple k t l its.toArray n dd sl)
      ⟨ho, rfl, ⟨_, ho, rfl⟩, call_meets F.slot_tuple_mul ⟨_, ho, rfl⟩ F.entry_tuple_mul (F.args_tuple_mul_2 _ _) (tuple_mulS l its.toArray n dd sl k t c0 c1) ⟨ho, .ref l, H, I, rfl, q⟩⟩)
end
end Gh

/-! The ghost layer: data without addresses, owned objects, readings over them. -/
namespace Gh
open PySem L2
abbrev Fg := PySem.W.Frag

/-- data: values without the heap; a reference stands for an owned object (or any other) -/
inductive D where
  | non | bl (b : Bool) | int (i : Int) | str (x : Str) | tup (ds : List D) | lst (ds : List D) | ref (a : Addr) | ty (n : String)
  /-- a list that is only read (the script) -/
  | fro (ds : List D)

/-- an owned object -/
inductive GO where
  /-- a list that is owned -/
  | lst (ds : List D)
  /-- the law's bag -/
  | bag
  /-- an instance -/
  | ins (C : Addr) (fs : List (Str × D))
  /-- a dict by ints and texts -/
  | dct (kvs : List (Key × D))
  /-- the dict of an exception -/
  | xd (fs : List (Str × D))
  /-- a code object's table: the lambdas that it tells bear the name q -/
  | tab (q : Str)

abbrev GH := Addr → Option GO
def put (h : GH) (a : Addr) (g : GO) : GH := fun b => if b = a then some g else h b
theorem put_same {h : GH} {a : Addr} {g : GO} : put h a g a = some g := by unfold put; rw [if_pos rfl]
theorem put_ne {h : GH} {a b : Addr} {g : GO} (e : b ≠ a) : put h a g b = h b := by unfold put; rw [if_neg e]
def del (h : GH) (a : Addr) : GH := fun b => if b = a then none else h b
theorem del_same {h : GH} {a : Addr} : del h a a = none := by unfold del; rw [if_pos rfl]
theorem del_ne {h : GH} {a b : Addr} (e : b ≠ a) : del h a b = h b := by unfold del; rw [if_neg e]

/-- a tuple that is read: not owned, or of the module -/
def TpF (K : Fg) (h : GH) (H : Hp) (a : Addr) (xs : List V) : Prop :=
  (h a = none ∧ Rd H a (.tup xs)) ∨
    ∃ (o : Obj) (its : Array Value) (n : Nat), K.lookup a = some o ∧ o.cls = .type "tuple" ∧ o.data = .seq its n ∧ its.size ≤ sizeLine ∧ Vals xs its.toList
/-- a list that is read: not owned, or of the module -/
def LsF (K : Fg) (h : GH) (H : Hp) (a : Addr) (xs : List V) : Prop :=
  (h a = none ∧ Rd H a (.lst xs)) ∨
    ∃ (o : Obj) (its : Array Value) (n : Nat), K.lookup a = some o ∧ o.cls = .type "list" ∧ o.dict = none ∧ o.data = .seq its n ∧ its.size ≤ sizeLine ∧ Vals xs its.toList
theorem LsF.sq {K : Fg} {h : GH} {H : Hp} {a : Addr} {xs : List V} (t : LsF K h H a xs) : SqL K H a xs := by
  rcases t with ⟨_, t⟩ | t
  · exact .inl t
  · exact .inr t
theorem TpF.sq {K : Fg} {h : GH} {H : Hp} {a : Addr} {xs : List V} (t : TpF K h H a xs) : SqT K H a xs := by
  rcases t with ⟨_, t⟩ | t
  · exact .inl t
  · exact .inr t
mutual
inductive Dv (K : Fg) (h : GH) (H : Hp) : V → D → Prop
  | non : Dv K h H .non .non
  | bl (b : Bool) : Dv K h H (.bl b) (.bl b)
  | int (i : Int) : Dv K h H (.int i) (.int i)
  | str (x : Str) : Dv K h H (.str x) (.str x)
  | ty (n : String) : Dv K h H (.ty n) (.ty n)
  | ref (a : Addr) : Dv K h H (.ref a) (.ref a)
  | tup {a : Addr} {xs : List V} {ds : List D} : TpF K h H a xs → Dvs K h H xs ds → Dv K h H (.ref a) (.tup ds)
  | lst {a : Addr} {xs : List V} {ds : List D} : h a = none → H a = some (.lst xs) → Dvs K h H xs ds → Dv K h H (.ref a) (.lst ds)
  | fro {a : Addr} {xs : List V} {ds : List D} : LsF K h H a xs → Dvs K h H xs ds → Dv K h H (.ref a) (.fro ds)
inductive Dvs (K : Fg) (h : GH) (H : Hp) : List V → List D → Prop
  | nil : Dvs K h H [] []
  | cons {v : V} {vs : List V} {d : D} {ds : List D} : Dv K h H v d → Dvs K h H vs ds → Dvs K h H (v :: vs) (d :: ds)
end

/-- no table -/
def NT (o : HO) : Prop := ∀ ps, o ≠ .tbl ps
/-- from (h, H) to (h', H'): what is not owned stands (but for tables); what is newly owned was not there -/
structure Step (h : GH) (H : Hp) (h' : GH) (H' : Hp) : Prop where
  keep : ∀ a o, h a = none → NT o → H a = some o → H' a = some o
  own : ∀ a, h' a ≠ none → h a ≠ none ∨ H a = none ∨ ∃ ps, H a = some (.tbl ps)
theorem Step.kp {h h' : GH} {H H' : Hp} (s : Step h H h' H') {a : Addr} {o : HO} (e : h a = none) (q : H a = some o) (nt : NT o := by intro _ z; cases z) : H' a = some o := s.keep a o e nt q
theorem Step.refl (h : GH) (H : Hp) : Step h H h H := ⟨fun _ _ _ _ e => e, fun _ e => .inl e⟩
theorem Step.free {h h' : GH} {H H' : Hp} (s : Step h H h' H') {a : Addr} {o : HO} (e : h a = none) (q : H a = some o) (nt : NT o := by intro _ z; cases z) : h' a = none := by
  cases z : h' a with
  | none => rfl
  | some g =>
    rcases s.own a (by rw [z]; simp) with y | y | ⟨ps, y⟩
    · exact absurd e y
    · rw [q] at y; cases y
    · rw [q] at y; cases y; exact absurd rfl (nt ps)
theorem Step.trans {h h1 h2 : GH} {H H1 H2 : Hp} (a : Step h H h1 H1) (b : Step h1 H1 h2 H2) : Step h H h2 H2 where
  keep := fun x o e nt q => b.keep x o (a.free e q nt) nt (a.keep x o e nt q)
  own := fun x e => by
    rcases b.own x e with y | y | ⟨ps, y⟩
    · exact a.own x y
    · cases z : h x with
      | some g => exact .inl (by simp)
      | none =>
        cases q : H x with
        | none => exact .inr (.inl rfl)
        | some o =>
          by_cases nt : NT o
          · rw [a.keep x o z nt q] at y; cases y
          · have : ∃ ps, o = .tbl ps := Classical.byContradiction fun w => nt fun ps w2 => w ⟨ps, w2⟩
            obtain ⟨ps, rfl⟩ := this
            exact .inr (.inr ⟨ps, rfl⟩)
    · cases z : h x with
      | some g => exact .inl (by simp)
      | none =>
        cases q : H x with
        | none => exact .inr (.inl rfl)
        | some o =>
          by_cases nt : NT o
          · rw [a.keep x o z nt q] at y; cases y; exact absurd rfl (nt ps)
          · have : ∃ ps, o = .tbl ps := Classical.byContradiction fun w => nt fun ps w2 => w ⟨ps, w2⟩
            obtain ⟨ps', rfl⟩ := this
            exact .inr (.inr ⟨ps', rfl⟩)
/-- a new object -/
theorem Step.new {h : GH} {H : Hp} {p : Addr} {o : HO} (n : H p = none) : Step h H h (upd H p o) :=
  ⟨fun a u _ _ e => by rw [upd_ne (ne_of_none e n)]; exact e, fun _ e => .inl e⟩
/-- a new owned object -/
theorem Step.newO {h : GH} {H : Hp} {p : Addr} {o : HO} {g : GO} (n : H p = none) : Step h H (put h p g) (upd H p o) :=
  ⟨fun a u _ _ e => by rw [upd_ne (ne_of_none e n)]; exact e, fun a e => by
    by_cases z : a = p
    · subst z; exact .inr (.inl n)
    · rw [put_ne z] at e; exact .inl e⟩
/-- an owned object is changed -/
theorem Step.set {h : GH} {H : Hp} {p : Addr} {o : HO} {g : GO} (n : h p ≠ none) : Step h H (put h p g) (upd H p o) :=
  ⟨fun a u e _ q => by rw [upd_ne (fun z => by subst z; exact n e)]; exact q, fun a e => by
    by_cases z : a = p
    · subst z; exact .inl n
    · rw [put_ne z] at e; exact .inl e⟩
/-- an owned object is let go -/
theorem Step.del {h : GH} {H : Hp} {p : Addr} : Step h H (del h p) H :=
  ⟨fun _ _ _ _ q => q, fun a e => by
    by_cases z : a = p
    · subst z; rw [del_same] at e; exact absurd rfl e
    · rw [del_ne z] at e; exact .inl e⟩
theorem TpF.mono {K : Fg} {h h' : GH} {H H' : Hp} {a : Addr} {xs : List V} (s : Step h H h' H') (t : TpF K h H a xs) : TpF K h' H' a xs := by
  rcases t with ⟨n, t | ⟨o, t⟩⟩ | t
  · exact .inl ⟨s.free n t, .inl (s.kp n t)⟩
  · exact .inl ⟨s.free n t, .inr ⟨o, s.kp n t⟩⟩
  · exact .inr t
theorem LsF.mono {K : Fg} {h h' : GH} {H H' : Hp} {a : Addr} {xs : List V} (s : Step h H h' H') (t : LsF K h H a xs) : LsF K h' H' a xs := by
  rcases t with ⟨n, t | ⟨o, t⟩⟩ | t
  · exact .inl ⟨s.free n t, .inl (s.kp n t)⟩
  · exact .inl ⟨s.free n t, .inr ⟨o, s.kp n t⟩⟩
  · exact .inr t
mutual
theorem Dv.mono {K : Fg} {h h' : GH} {H H' : Hp} (s : Step h H h' H') : ∀ {v : V} {d : D}, Dv K h H v d → Dv K h' H' v d
  | _, _, .non => .non
  | _, _, .bl b => .bl b
  | _, _, .int i => .int i
  | _, _, .str x => .str x
  | _, _, .ty n => .ty n
  | _, _, .ref a => .ref a
  | _, _, .tup t ds => .tup (t.mono s) (Dvs.mono s ds)
  | _, _, .lst n q ds => .lst (s.free n q) (s.kp n q) (Dvs.mono s ds)
  | _, _, .fro t ds => .fro (t.mono s) (Dvs.mono s ds)
theorem Dvs.mono {K : Fg} {h h' : GH} {H H' : Hp} (s : Step h H h' H') : ∀ {v : List V} {d : List D}, Dvs K h H v d → Dvs K h' H' v d
  | _, _, .nil => .nil
  | _, _, .cons a r => .cons (Dv.mono s a) (Dvs.mono s r)
end
theorem Dvs.length {K : Fg} {h : GH} {H : Hp} : ∀ {vs : List V} {ds : List D}, Dvs K h H vs ds → vs.length = ds.length
  | _, _, .nil => rfl
  | _, _, .cons _ r => by rw [List.length_cons, List.length_cons, Dvs.length r]
theorem Dvs.get {K : Fg} {h : GH} {H : Hp} : ∀ {vs : List V} {ds : List D} {i : Nat} {d : D}, Dvs K h H vs ds → ds[i]? = some d → ∃ v, vs[i]? = some v ∧ Dv K h H v d
  | _, _, _, _, .nil, e => by simp at e
  | _, _, 0, _, .cons a _, e => by simp at e; subst e; exact ⟨_, rfl, a⟩
  | _, _, i + 1, d, .cons _ r, e => by
    obtain ⟨v, h1, h2⟩ := Dvs.get (i := i) (d := d) r (by simpa using e)
    exact ⟨v, by simpa using h1, h2⟩
theorem Dvs.append {K : Fg} {h : GH} {H : Hp} : ∀ {vs ws : List V} {ds es : List D}, Dvs K h H vs ds → Dvs K h H ws es → Dvs K h H (vs ++ ws) (ds ++ es)
  | _, _, _, _, .nil, s => s
  | _, _, _, _, .cons r t, s => .cons r (Dvs.append t s)
theorem Dvs.take {K : Fg} {h : GH} {H : Hp} : ∀ {vs : List V} {ds : List D} (n : Nat), Dvs K h H vs ds → Dvs K h H (vs.take n) (ds.take n)
  | _, _, 0, _ => .nil
  | _, _, _ + 1, .nil => .nil
  | _, _, n + 1, .cons r t => .cons r (Dvs.take n t)
theorem Dvs.drop {K : Fg} {h : GH} {H : Hp} : ∀ {vs : List V} {ds : List D} (n : Nat), Dvs K h H vs ds → Dvs K h H (vs.drop n) (ds.drop n)
  | _, _, 0, r => r
  | _, _, _ + 1, .nil => .nil
  | _, _, n + 1, .cons _ t => Dvs.drop n t
theorem Dvs.set {K : Fg} {h : GH} {H : Hp} {x : V} {u : D} (r : Dv K h H x u) : ∀ {xs : List V} {us : List D} (i : Nat), Dvs K h H xs us → Dvs K h H (xs.set i x) (us.set i u)
  | _, _, _, .nil => .nil
  | _, _, 0, .cons _ t => .cons r t
  | _, _, i + 1, .cons q t => .cons q (Dvs.set r i t)
theorem Dvs.getV {K : Fg} {h : GH} {H : Hp} : ∀ {vs : List V} {ds : List D} {i : Nat} {v : V}, Dvs K h H vs ds → vs[i]? = some v → ∃ d, ds[i]? = some d ∧ Dv K h H v d
  | _, _, _, _, .nil, e => by simp at e
  | _, _, 0, _, .cons a _, e => by simp at e; subst e; exact ⟨_, rfl, a⟩
  | _, _, i + 1, d, .cons _ r, e => by
    obtain ⟨v, h1, h2⟩ := Dvs.getV (i := i) (v := d) r (by simpa using e)
    exact ⟨v, by simpa using h1, h2⟩

/-! ### owned objects -/
/-- the law's bag: the script's ints, the place, the rest of a great number, the salt, the count -/
def BagOk (K : Fg) (h : GH) (H : Hp) (a : Addr) : Prop := ∃ (l : Addr) (ns : List Int) (i g s c : Int), H a = some (.lst [.ref l, .int i, .int g, .int s, .int c]) ∧ h l = none ∧ H l = some (.lst (ns.map V.int)) ∧
  ns.length ≤ 63 ∧ 0 ≤ i ∧ i ≤ (ns.length : Int) ∧ 0 ≤ g ∧ 0 ≤ s ∧ s < 2147483647 ∧ 0 ≤ c
def GOk (K : Fg) (h : GH) (H : Hp) (a : Addr) : GO → Prop
  | .lst ds => ∃ xs, H a = some (.lst xs) ∧ Dvs K h H xs ds
  | .bag => BagOk K h H a
  | .ins C fs => ∃ (dx : Addr) (vs : List V), H a = some (.ins C dx ((fs.map (·.1)).zip vs)) ∧ Dvs K h H vs (fs.map (·.2))
  | .dct kvs => ∃ vs : List V, H a = some (.dK ((kvs.map (·.1)).zip vs)) ∧ Dvs K h H vs (kvs.map (·.2))
  | .xd fs => ∃ vs : List V, H a = some (.xd ((fs.map (·.1)).zip vs)) ∧ Dvs K h H vs (fs.map (·.2))
  | .tab q => ∃ ps : Array Value, H a = some (.tbl ps) ∧ PySem.TriplesOk ps.toList ∧ ∀ (pos : Pos) (cv : Value), codeAmong pos ps.toList = some cv → ∃ c, cv = .ref c ∧ h c = none ∧ H c = some (LamX.CodeO c q)
def Rel (K : Fg) (h : GH) (H : Hp) : Prop := ∀ a g, h a = some g → GOk K h H a g
/-- an object that stands as it stood is as it was -/
theorem GOk.mono {K : Fg} {h h' : GH} {H H' : Hp} {a : Addr} {g : GO} (s : Step h H h' H') (e : ∀ o, H a = some o → H' a = some o) (k : GOk K h H a g) : GOk K h' H' a g := by
  cases g with
  | lst ds => obtain ⟨xs, q, r⟩ := k; exact ⟨xs, e _ q, r.mono s⟩
  | bag =>
    obtain ⟨l, ns, i, g, sa, c, q, n, ql, r⟩ := k
    exact ⟨l, ns, i, g, sa, c, e _ q, s.free n ql, s.kp n ql, r⟩
  | ins C fs => obtain ⟨dx, vs, q, r⟩ := k; exact ⟨dx, vs, e _ q, r.mono s⟩
  | dct kvs => obtain ⟨vs, q, r⟩ := k; exact ⟨vs, e _ q, r.mono s⟩
  | xd fs => obtain ⟨vs, q, r⟩ := k; exact ⟨vs, e _ q, r.mono s⟩
  | tab q =>
    obtain ⟨ps, q1, q2, q3⟩ := k
    refine ⟨ps, e _ q1, q2, fun pos cv hc => ?_⟩
    obtain ⟨c, e1, e2, e3⟩ := q3 pos cv hc
    exact ⟨c, e1, s.free e2 e3 (LamX.codeO_ne), s.kp e2 e3 (LamX.codeO_ne)⟩
theorem GOk.there {K : Fg} {h : GH} {H : Hp} {a : Addr} {g : GO} (k : GOk K h H a g) : ∃ o, H a = some o := by
  cases g with
  | lst ds => obtain ⟨xs, q, r⟩ := k; exact ⟨_, q⟩
  | bag => obtain ⟨l, ns, i, g, sa, c, q, _⟩ := k; exact ⟨_, q⟩
  | ins C fs => obtain ⟨dx, vs, q, r⟩ := k; exact ⟨_, q⟩
  | dct kvs => obtain ⟨vs, q, r⟩ := k; exact ⟨_, q⟩
  | xd fs => obtain ⟨vs, q, r⟩ := k; exact ⟨_, q⟩
  | tab q => obtain ⟨ps, q1, _⟩ := k; exact ⟨_, q1⟩
theorem Rel.new {K : Fg} {h : GH} {H : Hp} {p : Addr} {o : HO} (r : Rel K h H) (n : H p = none) : Rel K h (upd H p o) := fun a g e =>
  (r a g e).mono (Step.new n) fun u q => by rw [upd_ne (ne_of_none q n)]; exact q
theorem Rel.free {K : Fg} {h : GH} {H : Hp} {p : Addr} (r : Rel K h H) (n : H p = none) : h p = none := by
  cases e : h p with
  | none => rfl
  | some g =>
    obtain ⟨o, q⟩ := (r p g e).there
    rw [n] at q; cases q
/-- an owned object is new or changed -/
theorem Rel.put {K : Fg} {h : GH} {H : Hp} {p : Addr} {o : HO} {g : GO} (r : Rel K h H) (s : Step h H (put h p g) (upd H p o)) (k : GOk K (put h p g) (upd H p o) p g) : Rel K (put h p g) (upd H p o) := fun a u e => by
  by_cases z : a = p
  · subst z; rw [put_same] at e; cases e; exact k
  · rw [put_ne z] at e
    exact (r a u e).mono s fun v q => by rw [upd_ne z]; exact q
theorem Rel.del {K : Fg} {h : GH} {H : Hp} {p : Addr} (r : Rel K h H) : Rel K (del h p) H := fun a u e => by
  by_cases z : a = p
  · subst z; rw [del_same] at e; cases e
  · rw [del_ne z] at e
    exact (r a u e).mono Step.del fun v q => q

/-! ### slots -/
abbrev GS := List (Option D)
/-- an anchor: what holds at all times from here on -/
structure AN where
  ok : GH → Hp → Prop
  mono : ∀ {h : GH} {H : Hp} {h' : GH} {H' : Hp}, Step h H h' H' → ok h H → ok h' H'
def AN.top : AN := ⟨fun _ _ => True, fun _ _ => trivial⟩
def AN.step (h0 : GH) (H0 : Hp) : AN := ⟨fun h H => Step h0 H0 h H, fun s t => t.trans s⟩
structure Sl (K : Fg) (An : AN) (h : GH) (H : Hp) (σ : St) (s : GS) : Prop where
  len : σ.length = s.length
  at' : ∀ (i : Nat) (d : D), s[i]? = some (some d) → ∃ v, σ[i]? = some (some v) ∧ Dv K h H v d
  an : An.ok h H
theorem Sl.mono {K : Fg} {An : AN} {h h' : GH} {H H' : Hp} {σ : St} {s : GS} (t : Step h H h' H') (k : Sl K An h H σ s) : Sl K An h' H' σ s :=
  ⟨k.1, fun i d e => let ⟨v, q, r⟩ := k.2 i d e; ⟨v, q, r.mono t⟩, An.mono t k.an⟩
theorem Sl.set {K : Fg} {An : AN} {h : GH} {H : Hp} {σ : St} {s : GS} {i : Nat} {v : V} {d : D} (k : Sl K An h H σ s) (r : Dv K h H v d) : Sl K An h H (σ.set i (some v)) (s.set i (some d)) := by
  refine ⟨by rw [List.length_set, List.length_set]; exact k.1, fun j e q => ?_, k.an⟩
  by_cases z : i = j
  · subst z
    have hl : i < s.length := by
      have := (List.getElem?_eq_some_iff.mp q).1
      rw [List.length_set] at this; exact this
    rw [List.getElem?_set_self hl] at q
    cases q
    exact ⟨v, List.getElem?_set_self (by rw [k.1]; exact hl), r⟩
  · rw [List.getElem?_set_ne z] at q
    obtain ⟨u, q1, q2⟩ := k.2 j e q
    exact ⟨u, by rw [List.getElem?_set_ne z]; exact q1, q2⟩
theorem Sl.unset {K : Fg} {An : AN} {h : GH} {H : Hp} {σ : St} {s : GS} {i : Nat} {v : Option V} (k : Sl K An h H σ s) : Sl K An h H (σ.set i v) (s.set i none) := by
  refine ⟨by rw [List.length_set, List.length_set]; exact k.1, fun j e q => ?_, k.an⟩
  by_cases z : i = j
  · subst z
    have hl : i < s.length := by
      have := (List.getElem?_eq_some_iff.mp q).1
      rw [List.length_set] at this; exact this
    rw [List.getElem?_set_self hl] at q
    cases q
  · rw [List.getElem?_set_ne z] at q
    obtain ⟨u, q1, q2⟩ := k.2 j e q
    exact ⟨u, by rw [List.getElem?_set_ne z]; exact q1, q2⟩
def startG (N : List Str) (ds : List D) : GS := ds.map some ++ List.replicate (N.length - ds.length) none
theorem Sl.begin {K : Fg} {An : AN} {h : GH} {H : Hp} {N : List Str} {vs : List V} {ds : List D} (r : Dvs K h H vs ds) (an : An.ok h H) : Sl K An h H (L2.start N vs) (startG N ds) := by
  have hl := r.length
  refine ⟨by unfold L2.start startG; simp [hl], fun i d e => ?_, an⟩
  unfold startG at e
  by_cases z : i < ds.length
  · rw [List.getElem?_append_left (by simpa using z), List.getElem?_map] at e
    cases q : ds[i]? with
    | none => rw [q] at e; cases e
    | some d' =>
      rw [q] at e
      have e' : d' = d := Option.some.inj (Option.some.inj e)
      subst e'
      obtain ⟨v, h1, h2⟩ := r.get q
      refine ⟨v, ?_, h2⟩
      unfold L2.start
      rw [List.getElem?_append_left (by rw [List.length_map, hl]; exact z), List.getElem?_map, h1]
      rfl
  · rw [List.getElem?_append_right (by simpa using Nat.le_of_not_lt z)] at e
    exfalso
    have := List.mem_of_getElem? e
    rw [List.mem_replicate] at this
    cases this.2

/-! ### readings -/
abbrev GP := D → GH → Prop
abbrev gTE := GS → GH → GP → Prop
abbrev gTT := GS → GH → (Bool → GH → Prop) → Prop
abbrev gTA := GS → GH → (List D → GH → Prop) → Prop
def gE (K : Fg) (An : AN) (g : gTE) : TE := fun σ H Q => ∃ s h P, Rel K h H ∧ Sl K An h H σ s ∧ g s h P ∧ ∀ v H' d h', Step h H h' H' → Rel K h' H' → Dv K h' H' v d → P d h' → Q v H'
def gT (K : Fg) (An : AN) (g : gTT) : TT := fun σ H Q => ∃ s h P, Rel K h H ∧ Sl K An h H σ s ∧ g s h P ∧ ∀ b H' h', Step h H h' H' → Rel K h' H' → P b h' → Q b H'
def gA (K : Fg) (An : AN) (g : gTA) : TA := fun σ H Q => ∃ s h P, Rel K h H ∧ Sl K An h H σ s ∧ g s h P ∧ ∀ vs H' ds h', Step h H h' H' → Rel K h' H' → Dvs K h' H' vs ds → P ds h' → Q vs H'
/-- a new list: p is its own -/
def gF (K : Fg) (An : AN) (g : gTA) : TE := fun σ H Q => ∃ s h P, Rel K h H ∧ Sl K An h H σ s ∧ g s h P ∧ ∀ p ds H' h1, h1 p = none → Step h H (put h1 p (.lst ds)) H' → Rel K (put h1 p (.lst ds)) H' → P ds h1 → Q (.ref p) H'
structure GEnds where
  nx : GS → GH → Prop
  rt : GP
  bk : GS → GH → Prop := fun _ _ => False
  ct : GS → GH → Prop := fun _ _ => False
abbrev gTS := GEnds → GS → GH → Prop
/-- the ends as they are wanted -/
structure Meets (K : Fg) (An : AN) (h : GH) (H : Hp) (N : GEnds) (De : Ends) : Prop where
  nx : ∀ σ' H' s' h', Step h H h' H' → Rel K h' H' → Sl K An h' H' σ' s' → N.nx s' h' → De.nx σ' H'
  rt : ∀ v H' d h', Step h H h' H' → Rel K h' H' → Dv K h' H' v d → N.rt d h' → De.rt v H'
  bk : ∀ σ' H' s' h', Step h H h' H' → Rel K h' H' → Sl K An h' H' σ' s' → N.bk s' h' → De.bk σ' H'
  ct : ∀ σ' H' s' h', Step h H h' H' → Rel K h' H' → Sl K An h' H' σ' s' → N.ct s' h' → De.ct σ' H'
theorem Meets.after {K : Fg} {An : AN} {h h1 : GH} {H H1 : Hp} {N : GEnds} {De : Ends} (m : Meets K An h H N De) (t : Step h H h1 H1) : Meets K An h1 H1 N De :=
  ⟨fun σ' H' s' h' a => m.nx σ' H' s' h' (t.trans a), fun v H' d h' a => m.rt v H' d h' (t.trans a), fun σ' H' s' h' a => m.bk σ' H' s' h' (t.trans a), fun σ' H' s' h' a => m.ct σ' H' s' h' (t.trans a)⟩
def gS (K : Fg) (An : AN) (g : gTS) : TS := fun De σ H => ∃ s h N, Rel K h H ∧ Sl K An h H σ s ∧ g N s h ∧ Meets K An h H N De

section
variable {X : Cx} {An : AN}
theorem _root_.L2.PE.imp {e : Expr} {t t' : TE} (h : PE X e t) (k : ∀ σ H Q, t' σ H Q → t σ H Q) : PE X e t' := ⟨fun pins s σ H Q I q => h.run pins s σ H Q I (k σ H Q q)⟩
theorem _root_.L2.PT.imp {e : Expr} {t t' : TT} (h : PT X e t) (k : ∀ σ H Q, t' σ H Q → t σ H Q) : PT X e t' := ⟨fun pins s σ H Q I q => h.run pins s σ H Q I (k σ H Q q)⟩
theorem _root_.L2.PW.imp {e : Expr} {t t' : TT} (h : PW X e t) (k : ∀ σ H Q, t' σ H Q → t σ H Q) : PW X e t' := ⟨fun wh pins s σ H Q I q => h.run wh pins s σ H Q I (k σ H Q q)⟩
theorem _root_.L2.PA.imp {e : List Expr} {t t' : TA} (h : PA X e t) (k : ∀ σ H Q, t' σ H Q → t σ H Q) : PA X e t' := ⟨fun pos pins s σ H Q I q => h.run pos pins s σ H Q I (k σ H Q q)⟩
theorem _root_.L2.PS.imp {e : Stmt} {t t' : TS} (h : PS X e t) (k : ∀ De σ H, t' De σ H → t De σ H) : PS X e t' := ⟨fun pins s σ H De I q => h.run pins s σ H De I (k De σ H q)⟩
theorem _root_.L2.PSs.imp {e : List Stmt} {t t' : TS} (h : PSs X e t) (k : ∀ De σ H, t' De σ H → t De σ H) : PSs X e t' := ⟨fun pins s σ H De I q => h.run pins s σ H De I (k De σ H q)⟩

/-! ### names, constants -/
def gVar (i : Nat) : gTE := fun s h P => ∃ d, s[i]? = some (some d) ∧ P d h
def gC (d : D) : gTE := fun _ h P => P d h
variable {pos : Pos}
theorem e_var (i : Nat) {x : Str} (hN : X.N[i]? = some x := by rfl) (hv : Vis X.env.scope x := by first | exact Or.inl rfl | exact Or.inr (Or.inl rfl) | exact Or.inr (Or.inr rfl)) (hd : (x == ("__debug__" : Str)) = false := by decide)
    (hcd : (x == ("__classdict__" : Str)) = false := by decide) : PE X (.Name x pos) (gE X.K An (gVar i)) :=
  (pe_var (i := i) hN hv hd hcd).imp fun σ H Q ⟨s, h, P, r, l, ⟨d, e, p⟩, k⟩ => let ⟨v, q1, q2⟩ := l.2 i d e; ⟨v, q1, k v H d h (Step.refl h H) r q2 p⟩
theorem e_int {i j} : PE X (.Constant (.int i) j pos) (gE X.K An (gC (.int i))) := pe_int.imp fun _ H _ ⟨_, h, _, r, _, p, k⟩ => k _ H _ h (Step.refl h H) r (.int i) p
theorem e_bl {b j} : PE X (.Constant (.bool b) j pos) (gE X.K An (gC (.bl b))) := pe_bl.imp fun _ H _ ⟨_, h, _, r, _, p, k⟩ => k _ H _ h (Step.refl h H) r (.bl b) p
theorem e_non {j} : PE X (.Constant .none j pos) (gE X.K An (gC .non)) := pe_non.imp fun _ H _ ⟨_, h, _, r, _, p, k⟩ => k _ H _ h (Step.refl h H) r .non p
theorem e_str {x j} : PE X (.Constant (.str x) j pos) (gE X.K An (gC (.str x))) := pe_str.imp fun _ H _ ⟨_, h, _, r, _, p, k⟩ => k _ H _ h (Step.refl h H) r (.str x) p
/-- a constant of the module, whatever the heap is -/
theorem e_glob {x : Str} {v : V} {u : Value} {d : D} (hm : X.mg x = some u) (rv : RelV v u) (dv : ∀ h H, Dv X.K h H v d) (hg : Gl X x := by rfl) (hd : (x == ("__debug__" : Str)) = false := by decide) : PE X (.Name x pos) (gE X.K An (gC d)) :=
  (pe_glob hg hm rv hd).imp fun _ H _ ⟨_, h, _, r, _, p, k⟩ => k _ H _ h (Step.refl h H) r (dv h H) p
theorem e_bltn {x : Str} {v : V} {u : Value} {d : D} (hm : X.mg x = none) (hv : bootBuiltins x = some u) (rv : RelV v u) (dv : ∀ h H, Dv X.K h H v d) (hg : Gl X x := by rfl) (hn : x ≠ "__name__" := by decide) (hd : (x == ("__debug__" : Str)) = false := by decide) : PE X (.Name x pos) (gE X.K An (gC d)) :=
  (pe_bltn hg hm hv rv hn hd).imp fun _ H _ ⟨_, h, _, r, _, p, k⟩ => k _ H _ h (Step.refl h H) r (dv h H) p

/-! ### operations -/
abbrev R3 := GH → D → D → D → Prop
def OPL (K : Fg) (r : R2) (R : R3) : Prop := ∀ x y H h a b c Q, Rel K h H → Dv K h H x a → Dv K h H y b → R h a b c → (∀ v H', Step h H h H' → Rel K h H' → Dv K h H' v c → Q v H') → r x y H Q
def gBin (R : R3) (ga gb : gTE) : gTE := fun s h P => ga s h fun a h1 => gb s h1 fun b h2 => ∃ c, R h2 a b c ∧ P c h2
theorem two {K : Fg} {An : AN} {r : R2} {R : R3} {ga gb : gTE} (o : OPL K r R) (σ : St) (H : Hp) (Q : VK) (q : gE K An (gBin R ga gb) σ H Q) : tOp r (gE K An ga) (gE K An gb) σ H Q := by
  obtain ⟨s, h, P, re, l, g, k⟩ := q
  refine ⟨s, h, _, re, l, g, fun x H1 a h1 s1 re1 dx g1 => ?_⟩
  refine ⟨s, h1, _, re1, l.mono s1, g1, fun y H2 b h2 s2 re2 dy g2 => ?_⟩
  obtain ⟨c, hr, p⟩ := g2
  exact o x y H2 h2 a b c Q re2 (dx.mono s2) dy hr fun v H' s3 re3 dv => k v H' c h2 ((s1.trans s2).trans s3) re3 dv p
variable {a b : Expr} {ga gb : gTE}
theorem e_bin {op : Operator} {r : R2} {R : R3} (ho : OpR X (binaryOp op) r) (o : OPL X.K r R) (ha : PE X a (gE X.K An ga)) (hb : PE X b (gE X.K An gb)) : PE X (.BinOp a op b pos) (gE X.K An (gBin R ga gb)) :=
  (pe_op ho ha hb).imp fun σ H Q q => two o σ H Q q
theorem e_cmp {op : CmpOp} {r : R2} {R : R3} (ho : OpR X (compareOp op) r) (o : OPL X.K r R) (ha : PE X a (gE X.K An ga)) (hb : PE X b (gE X.K An gb)) (hm : behindInMarks op b = false) : PE X (.Compare a [op] [b] pos) (gE X.K An (gBin R ga gb)) :=
  (pe_cmpR ho ha hb hm).imp fun σ H Q q => two o σ H Q q
def UNL (K : Fg) (r : V → Hp → VK → Prop) (R : GH → D → D → Prop) : Prop := ∀ x H h a c Q, Rel K h H → Dv K h H x a → R h a c → (∀ v H', Step h H h H' → Rel K h H' → Dv K h H' v c → Q v H') → r x H Q
def gUn (R : GH → D → D → Prop) (ga : gTE) : gTE := fun s h P => ga s h fun a h1 => ∃ c, R h1 a c ∧ P c h1
theorem e_un {op : UnaryOp} {r : V → Hp → VK → Prop} {R : GH → D → D → Prop} (ho : UnR X (unaryOp op) r) (o : UNL X.K r R) (ha : PE X a (gE X.K An ga)) : PE X (.UnaryOp op a pos) (gE X.K An (gUn R ga)) :=
  (pe_un ho ha).imp fun σ H Q ⟨s, h, P, re, l, g, k⟩ => ⟨s, h, _, re, l, g, fun x H1 a h1 s1 re1 dx ⟨c, hr, p⟩ => o x H1 h1 a c Q re1 dx hr fun v H' s3 re3 dv => k v H' c h1 (s1.trans s3) re3 dv p⟩
end
end Gh

namespace Gh
open PySem L2
/-! ### operators by the data -/
/-- an owned list is seen as a list -/
def vw (h : GH) : D → D
  | .ref p => match h p with
    | some (.lst ds) => .lst ds
    | _ => .ref p
  | d => d
theorem vw_own {h : GH} {p : Addr} {ds : List D} (e : h p = some (.lst ds)) : vw h (.ref p) = .lst ds := by
  simp only [vw, e]
section
variable {K : Fg} {h : GH} {H : Hp} {v : V} {d : D}
theorem vw_lst {ds : List D} (r : Rel K h H) (k : Dv K h H v d) (e : vw h d = .lst ds) : ∃ p xs, v = .ref p ∧ H p = some (.lst xs) ∧ Dvs K h H xs ds := by
  cases k with
  | lst n q rs => cases e; exact ⟨_, _, rfl, q, rs⟩
  | ref a =>
    unfold vw at e
    dsimp only at e
    cases z : h a with
    | none => rw [z] at e; cases e
    | some g =>
      rw [z] at e
      cases g with
      | lst es =>
        cases e
        obtain ⟨xs, q, rs⟩ := r a _ z
        exact ⟨a, xs, rfl, q, rs⟩
      | bag => cases e
      | ins C fs => cases e
      | dct kvs => cases e
      | xd fs => cases e
      | tab q => cases e
  | _ => cases e
theorem vw_tup {ds : List D} (k : Dv K h H v d) (e : vw h d = .tup ds) : ∃ p xs, v = .ref p ∧ TpF K h H p xs ∧ Dvs K h H xs ds := by
  cases k with
  | tup t rs => cases e; exact ⟨_, _, rfl, t, rs⟩
  | ref a =>
    unfold vw at e
    dsimp only at e
    split at e <;> cases e
  | _ => cases e
theorem vw_fro {ds : List D} (k : Dv K h H v d) (e : vw h d = .fro ds) : ∃ p xs, v = .ref p ∧ LsF K h H p xs ∧ Dvs K h H xs ds := by
  cases k with
  | fro t rs => cases e; exact ⟨_, _, rfl, t, rs⟩
  | ref a =>
    unfold vw at e
    dsimp only at e
    split at e <;> cases e
  | _ => cases e
theorem vw_int {i : Int} (k : Dv K h H v d) (e : vw h d = .int i) : v = .int i := by
  cases k with
  | int j => cases e; rfl
  | ref a =>
    unfold vw at e
    dsimp only at e
    split at e <;> cases e
  | _ => cases e
theorem vw_str {x : Str} (k : Dv K h H v d) (e : vw h d = .str x) : v = .str x := by
  cases k with
  | str j => cases e; rfl
  | ref a =>
    unfold vw at e
    dsimp only at e
    split at e <;> cases e
  | _ => cases e
theorem vw_bl {x : Bool} (k : Dv K h H v d) (e : vw h d = .bl x) : v = .bl x := by
  cases k with
  | bl j => cases e; rfl
  | ref a =>
    unfold vw at e
    dsimp only at e
    split at e <;> cases e
  | _ => cases e
theorem vw_non (k : Dv K h H v d) (e : vw h d = .non) : v = .non := by
  cases k with
  | non => rfl
  | ref a =>
    unfold vw at e
    dsimp only at e
    split at e <;> cases e
  | _ => cases e
theorem Dvs.lst_new {ds : List D} {xs : List V} {p : Addr} (re : Rel K h H) (k : Dvs K h H xs ds) (n : H p = none) : Dv K h (upd H p (.lst xs)) (.ref p) (.lst ds) :=
  .lst (re.free n) upd_same (k.mono (Step.new n))
theorem Dvs.tup_new {ds : List D} {xs : List V} {p : Addr} (re : Rel K h H) (k : Dvs K h H xs ds) (n : H p = none) : Dv K h (upd H p (.tup xs)) (.ref p) (.tup ds) :=
  .tup (.inl ⟨re.free n, .inl upd_same⟩) (k.mono (Step.new n))
end
/-- + -/
def RAdd : R3 := fun h a b c => match vw h a, vw h b with
  | .int i, .int j => c = .int (i + j)
  | .str x, .str y => x.length + y.length ≤ sizeLine ∧ c = .str (x ++ y)
  | .lst xs, .lst ys => xs.length + ys.length ≤ sizeLine ∧ c = .lst (xs ++ ys)
  | .tup xs, .tup ys => xs.length + ys.length ≤ sizeLine ∧ c = .tup (xs ++ ys)
  | _, _ => False
def RSub : R3 := fun h a b c => match vw h a, vw h b with
  | .int i, .int j => c = .int (i - j)
  | _, _ => False
def RMul : R3 := fun h a b c => match vw h a, vw h b with
  | .int i, .int j => (CMul i j ∨ CMulW i j) ∧ c = .int (i * j)
  | .str x, .int n => (0 ≤ n ∧ n ≤ 1000000 ∧ x.length * n.toNat ≤ 1000000) ∧ c = .str (repS x n.toNat)
  | .tup xs, .int n => (1 ≤ n ∧ n ≤ 1000 ∧ xs.length ≤ 1000) ∧ c = .tup (List.replicate n.toNat xs).flatten
  | .lst xs, .int n => (-(2 ^ 63) ≤ n ∧ n < 2 ^ 63 ∧ xs.length * n.toNat ≤ sizeLine) ∧ c = .lst (List.replicate n.toNat xs).flatten
  | _, _ => False
def RFdiv : R3 := fun h a b c => match vw h a, vw h b with
  | .int i, .int j => (j ≠ 0 ∧ j.natAbs.log2 < 9000) ∧ c = .int (i.fdiv j)
  | _, _ => False
def RMod : R3 := fun h a b c => match vw h a, vw h b with
  | .int i, .int j => j ≠ 0 ∧ c = .int (i.fmod j)
  | _, _ => False
def RPow : R3 := fun h a b c => match vw h a, vw h b with
  | .int i, .int j => CPow i j ∧ c = .int (i ^ j.toNat)
  | _, _ => False
def RCmp (f : Int → Int → Bool) : R3 := fun h a b c => match vw h a, vw h b with
  | .int i, .int j => c = .bl (f i j)
  | _, _ => False
/-- an int rule -/
theorem opl_int {K : Fg} {C : Int → Int → Prop} {g : Int → Int → V} {gd : Int → Int → D} (hg : ∀ i j h H, Dv K h H (g i j) (gd i j)) : OPL K (rI C g) (fun h a b c => match vw h a, vw h b with
    | .int i, .int j => C i j ∧ c = gd i j
    | _, _ => False) := by
  intro x y H h a b c Q re dx dy hr k
  cases ea : vw h a <;> cases eb : vw h b <;> simp only [ea, eb] at hr
  rename_i i j
  obtain ⟨hc, rfl⟩ := hr
  exact ⟨i, j, vw_int dx ea, vw_int dy eb, hc, k _ H (Step.refl h H) re (hg i j h H)⟩
theorem opl_int0 {K : Fg} {g : Int → Int → V} {gd : Int → Int → D} (hg : ∀ i j h H, Dv K h H (g i j) (gd i j)) : OPL K (rI0 g) (fun h a b c => match vw h a, vw h b with
    | .int i, .int j => c = gd i j
    | _, _ => False) := by
  intro x y H h a b c Q re dx dy hr k
  cases ea : vw h a <;> cases eb : vw h b <;> simp only [ea, eb] at hr
  rename_i i j
  subst hr
  exact ⟨i, j, vw_int dx ea, vw_int dy eb, k _ H (Step.refl h H) re (hg i j h H)⟩
section
variable {X : Cx} {An : AN}
/-! the operators of the layer, of all kinds -/
def rAddA (K : Fg) : R2 := fun x y H Q => (rI0 (fun i j => .int (i + j))) x y H Q ∨ (∃ i j, x = .str i ∧ y = .str j ∧ i.length + j.length ≤ sizeLine ∧ Q (.str (i ++ j)) H) ∨ rCat x y H Q ∨ rCatA K x y H Q
theorem oAdd : OpR X (binaryOp .Add) (rAddA X.K) := op_add.or (op_add_str.or (op_cat.or op_catA))
theorem lAdd {K : Fg} : OPL K (rAddA K) RAdd := by
  intro x y H h a b c Q re dx dy hr k
  unfold RAdd at hr
  cases ea : vw h a <;> cases eb : vw h b <;> simp only [ea, eb] at hr
  · subst hr
    exact .inl ⟨_, _, vw_int dx ea, vw_int dy eb, k _ H (Step.refl h H) re (.int _)⟩
  · obtain ⟨hz, rfl⟩ := hr
    exact .inr (.inl ⟨_, _, vw_str dx ea, vw_str dy eb, hz, k _ H (Step.refl h H) re (.str _)⟩)
  · obtain ⟨hz, rfl⟩ := hr
    obtain ⟨p, xs, e1, h1, r1⟩ := vw_tup dx ea
    obtain ⟨q, ys, e2, h2, r2⟩ := vw_tup dy eb
    refine .inr (.inr (.inr ⟨p, q, xs, ys, e1, e2, h1.sq, h2.sq, by rw [r1.length, r2.length]; exact hz, fun z => ?_, fun z z' => ?_, fun _ _ t n => ?_⟩))
    · subst z
      cases r1
      exact k _ H (Step.refl h H) re (.tup h2 r2)
    · subst z'
      cases r2
      rw [List.append_nil] at k
      exact k _ H (Step.refl h H) re (.tup h1 r1)
    · exact k _ _ (Step.new n) (re.new n) ((r1.append r2).tup_new re n)
  · obtain ⟨hz, rfl⟩ := hr
    obtain ⟨p, xs, e1, h1, r1⟩ := vw_lst re dx ea
    obtain ⟨q, ys, e2, h2, r2⟩ := vw_lst re dy eb
    refine .inr (.inr (.inl ⟨p, q, xs, ys, e1, e2, h1, h2, by rw [r1.length, r2.length]; exact hz, fun t n => ?_⟩))
    exact k _ _ (Step.new n) (re.new n) ((r1.append r2).lst_new re n)
theorem lSub {K : Fg} : OPL K (rI0 fun i j => .int (i - j)) RSub := opl_int0 (gd := fun i j => .int (i - j)) fun i j _ _ => .int _
theorem Dvs.rep {K : Fg} {h : GH} {H : Hp} {vs : List V} {ds : List D} (r : Dvs K h H vs ds) : ∀ n : Nat, Dvs K h H (List.replicate n vs).flatten (List.replicate n ds).flatten
  | 0 => .nil
  | n + 1 => by
    rw [List.replicate_succ, List.replicate_succ, List.flatten_cons, List.flatten_cons]
    exact r.append (Dvs.rep r n)
def rMulA (K : Fg) : R2 := fun x y H Q => (rI CMul fun i j => .int (i * j)) x y H Q ∨ (rI CMulW fun i j => .int (i * j)) x y H Q ∨ (∃ z n, x = .str z ∧ y = .int n ∧ 0 ≤ n ∧ n ≤ 1000000 ∧ z.length * n.toNat ≤ 1000000 ∧ Q (.str (repS z n.toNat)) H) ∨ rRepT K x y H Q ∨ rRepS K x y H Q ∨ rRep x y H Q
theorem oMul : OpR X (binaryOp .Mult) (rMulA X.K) := op_mul.or (op_mulW.or (op_mulS.or (op_repT.or (op_repS.or op_rep))))
theorem rep_nil {α : Type} (n : Nat) : (List.replicate n ([] : List α)).flatten = [] := by
  induction n with
  | zero => rfl
  | succ n ih => rw [List.replicate_succ, List.flatten_cons, ih]; rfl
theorem lMul {K : Fg} : OPL K (rMulA K) RMul := by
  intro x y H h a b c Q re dx dy hr k
  unfold RMul at hr
  cases ea : vw h a <;> cases eb : vw h b <;> simp only [ea, eb] at hr
  · obtain ⟨hc, rfl⟩ := hr
    rcases hc with hc | hc
    · exact .inl ⟨_, _, vw_int dx ea, vw_int dy eb, hc, k _ H (Step.refl h H) re (.int _)⟩
    · exact .inr (.inl ⟨_, _, vw_int dx ea, vw_int dy eb, hc, k _ H (Step.refl h H) re (.int _)⟩)
  · obtain ⟨⟨h0, h1, hz⟩, rfl⟩ := hr
    exact .inr (.inr (.inl ⟨_, _, vw_str dx ea, vw_int dy eb, h0, h1, hz, k _ H (Step.refl h H) re (.str _)⟩))
  · rename_i ds n
    obtain ⟨⟨h0, h1, hz⟩, rfl⟩ := hr
    obtain ⟨p, xs, e1, t, rs⟩ := vw_tup dx ea
    by_cases hc : ds = [] ∨ n = 1
    · have e : (List.replicate n.toNat ds).flatten = ds := by
        rcases hc with rfl | rfl
        · exact rep_nil _
        · show [ds].flatten = ds
          simp
      rw [e] at k
      refine .inr (.inr (.inr (.inr (.inl ⟨p, n, xs, e1, vw_int dy eb, t.sq, ?_, h0, h1, k _ H (Step.refl h H) re (.tup t rs)⟩))))
      rcases hc with rfl | rfl
      · cases rs; exact .inl rfl
      · exact .inr rfl
    · have h2 : 2 ≤ n := by
        have : n ≠ 1 := fun z => hc (.inr z)
        omega
      refine .inr (.inr (.inr (.inl ⟨p, n, xs, e1, vw_int dy eb, t.sq, fun z => ?_, h2, h1, by rw [rs.length]; exact hz, fun q nq => k _ _ (Step.new nq) (re.new nq) ((rs.rep _).tup_new re nq)⟩)))
      subst z
      cases rs
      exact hc (.inl rfl)
  · rename_i ds n
    obtain ⟨⟨h0, h1, hz⟩, rfl⟩ := hr
    obtain ⟨p, xs, e1, t, rs⟩ := vw_lst re dx ea
    exact .inr (.inr (.inr (.inr (.inr ⟨p, n, xs, e1, vw_int dy eb, t, h0, h1, by rw [rs.length]; exact hz, fun q nq => k _ _ (Step.new nq) (re.new nq) ((rs.rep _).lst_new re nq)⟩))))
theorem oFdiv : OpR X (binaryOp .FloorDiv) (rI (fun _ j => j ≠ 0 ∧ j.natAbs.log2 < 9000) fun i j => .int (i.fdiv j)) := opI fun i j _ _ _ _ _ hc q => PyProof.Rows.floordiv_int hc.1 q (.inl (PyProof.noPylong_of_log2 hc.2))
theorem lFdiv {K : Fg} : OPL K (rI (fun _ j => j ≠ 0 ∧ j.natAbs.log2 < 9000) fun i j => .int (i.fdiv j)) RFdiv := opl_int (gd := fun i j => .int (i.fdiv j)) fun i j _ _ => .int _
theorem lMod {K : Fg} : OPL K (rI (fun _ j => j ≠ 0) fun i j => .int (i.fmod j)) RMod := opl_int (gd := fun i j => .int (i.fmod j)) fun i j _ _ => .int _
theorem lPow {K : Fg} : OPL K (rI CPow fun i j => .int (i ^ j.toNat)) RPow := opl_int (gd := fun i j => .int (i ^ j.toNat)) fun i j _ _ => .int _
theorem lCmp {K : Fg} {f : Int → Int → Bool} : OPL K (rI0 fun i j => .bl (f i j)) (RCmp f) := opl_int0 (gd := fun i j => .bl (f i j)) fun i j _ _ => .bl _
variable {a b : Expr} {ga gb : gTE} {pos : Pos}
theorem e_add (ha : PE X a (gE X.K An ga)) (hb : PE X b (gE X.K An gb)) : PE X (.BinOp a .Add b pos) (gE X.K An (gBin RAdd ga gb)) := e_bin oAdd lAdd ha hb
theorem e_sub (ha : PE X a (gE X.K An ga)) (hb : PE X b (gE X.K An gb)) : PE X (.BinOp a .Sub b pos) (gE X.K An (gBin RSub ga gb)) := e_bin op_sub lSub ha hb
theorem e_mul (ha : PE X a (gE X.K An ga)) (hb : PE X b (gE X.K An gb)) : PE X (.BinOp a .Mult b pos) (gE X.K An (gBin RMul ga gb)) := e_bin oMul lMul ha hb
theorem e_fdiv (ha : PE X a (gE X.K An ga)) (hb : PE X b (gE X.K An gb)) : PE X (.BinOp a .FloorDiv b pos) (gE X.K An (gBin RFdiv ga gb)) := e_bin oFdiv lFdiv ha hb
theorem e_mod (ha : PE X a (gE X.K An ga)) (hb : PE X b (gE X.K An gb)) : PE X (.BinOp a .Mod b pos) (gE X.K An (gBin RMod ga gb)) := e_bin op_modN lMod ha hb
theorem e_pow (ha : PE X a (gE X.K An ga)) (hb : PE X b (gE X.K An gb)) : PE X (.BinOp a .Pow b pos) (gE X.K An (gBin RPow ga gb)) := e_bin op_pow lPow ha hb
theorem e_lt (ha : PE X a (gE X.K An ga)) (hb : PE X b (gE X.K An gb)) : PE X (.Compare a [.Lt] [b] pos) (gE X.K An (gBin (RCmp fun i j => decide (i < j)) ga gb)) := e_cmp op_lt lCmp ha hb (nomark _)
theorem e_le (ha : PE X a (gE X.K An ga)) (hb : PE X b (gE X.K An gb)) : PE X (.Compare a [.LtE] [b] pos) (gE X.K An (gBin (RCmp fun i j => decide (i ≤ j)) ga gb)) := e_cmp op_le lCmp ha hb (nomark _)
theorem e_gt (ha : PE X a (gE X.K An ga)) (hb : PE X b (gE X.K An gb)) : PE X (.Compare a [.Gt] [b] pos) (gE X.K An (gBin (RCmp fun i j => decide (j < i)) ga gb)) := e_cmp op_gt lCmp ha hb (nomark _)
theorem e_ge (ha : PE X a (gE X.K An ga)) (hb : PE X b (gE X.K An gb)) : PE X (.Compare a [.GtE] [b] pos) (gE X.K An (gBin (RCmp fun i j => decide (j ≤ i)) ga gb)) := e_cmp op_ge lCmp ha hb (nomark _)
end
/-! ### == by the data -/
mutual
def toP : D → Option PyData
  | .non => some .none
  | .bl b => some (.bool b)
  | .int i => some (.int i)
  | .str x => some (.str x)
  | .tup ds => (toPs ds).map .tuple
  | .lst ds => (toPs ds).map .list
  | .ref _ => none
  | .ty _ => none
  | .fro _ => none
def toPs : List D → Option (List PyData)
  | [] => some []
  | d :: r => (toP d).bind fun x => (toPs r).map (x :: ·)
end
mutual
theorem Dv.dp {K : Fg} {h : GH} {H : Hp} : ∀ {v : V} {d : D} {p : PyData}, Dv K h H v d → toP d = some p → Dp K H v p
  | _, _, _, .non, e => by cases e; exact .non
  | _, _, _, .bl b, e => by cases e; exact .bl b
  | _, _, _, .int i, e => by cases e; exact .int i
  | _, _, _, .str x, e => by cases e; exact .str x
  | _, _, _, .ty n, e => by cases e
  | _, _, _, .ref a, e => by cases e
  | _, _, _, .fro _ _, e => by cases e
  | _, _, _, .tup (ds := ds) t rs, e => by
    rw [toP] at e
    cases q : toPs ds with
    | none => rw [q] at e; cases e
    | some ps => rw [q] at e; cases e; exact .tup t.sq (Dvs.dp rs q)
  | _, _, _, .lst (ds := ds) n t rs, e => by
    rw [toP] at e
    cases q : toPs ds with
    | none => rw [q] at e; cases e
    | some ps => rw [q] at e; cases e; exact .lst (.inl (.inl t)) (Dvs.dp rs q)
theorem Dvs.dp {K : Fg} {h : GH} {H : Hp} : ∀ {v : List V} {d : List D} {p : List PyData}, Dvs K h H v d → toPs d = some p → DpAll K H v p
  | _, _, _, .nil, e => by cases e; exact .nil
  | _, _, _, .cons (d := d) (ds := ds) a r, e => by
    rw [toPs] at e
    cases q : toP d with
    | none => rw [q] at e; cases e
    | some x =>
      cases q2 : toPs ds with
      | none => rw [q, q2] at e; cases e
      | some xs => rw [q, q2] at e; cases e; exact .cons (Dv.dp a q) (Dvs.dp r q2)
end
theorem vw_dp {K : Fg} {h : GH} {H : Hp} {v : V} {d : D} {p : PyData} (re : Rel K h H) (k : Dv K h H v d) (e : toP (vw h d) = some p) : Dp K H v p := by
  cases k with
  | ref a =>
    cases z : h a with
    | none =>
      have q : vw h (.ref a) = .ref a := by simp only [vw, z]
      rw [q] at e; cases e
    | some g =>
      cases g with
      | lst es =>
        rw [vw_own z] at e
        obtain ⟨xs, q, rs⟩ := re a _ z
        rw [toP] at e
        cases q2 : toPs es with
        | none => rw [q2] at e; cases e
        | some ps => rw [q2] at e; cases e; exact .lst (.inl (.inl q)) (rs.dp q2)
      | bag => have q : vw h (.ref a) = .ref a := by { simp only [vw, z] }; rw [q] at e; cases e
      | ins C fs => have q : vw h (.ref a) = .ref a := by { simp only [vw, z] }; rw [q] at e; cases e
      | dct kvs => have q : vw h (.ref a) = .ref a := by { simp only [vw, z] }; rw [q] at e; cases e
      | xd kvs => have q : vw h (.ref a) = .ref a := by { simp only [vw, z] }; rw [q] at e; cases e
      | tab kvs => have q : vw h (.ref a) = .ref a := by { simp only [vw, z] }; rw [q] at e; cases e
  | non => exact Dv.dp (h := h) .non e
  | bl b => exact Dv.dp (h := h) (.bl b) e
  | int b => exact Dv.dp (h := h) (.int b) e
  | str b => exact Dv.dp (h := h) (.str b) e
  | ty b => exact Dv.dp (h := h) (.ty b) e
  | tup t rs => exact Dv.dp (h := h) (.tup t rs) e
  | lst n t rs => exact Dv.dp (h := h) (.lst n t rs) e
  | fro t rs => exact Dv.dp (h := h) (.fro t rs) e
def REq (neg : Bool) : R3 := fun h a b c => match vw h a, vw h b with
  | .int i, .int j => c = .bl (if neg then !decide (i = j) else decide (i = j))
  | .str i, .str j => c = .bl (if neg then !decide (i = j) else decide (i = j))
  | x, y => ∃ p q, toP x = some p ∧ toP y = some q ∧ SeqAt.shaped p = true ∧ SeqAt.shaped q = true ∧ c = .bl (if neg then !PyData.eqv p q else PyData.eqv p q)
end Gh

namespace Gh
open PySem L2
section
variable {X : Cx} {An : AN} {a b c : Expr} {ga gb gc : gTE} {pos : Pos}
theorem dec_vint {i j : Int} : decide (V.int i = V.int j) = decide (i = j) := by rw [Bool.eq_iff_iff]; simp
theorem dec_vstr {i j : Str} : decide (V.str i = V.str j) = decide (i = j) := by rw [Bool.eq_iff_iff]; simp
def rEqA (K : Fg) : R2 := fun x y H Q => rEq x y H Q ∨ rEqD K x y H Q
def rNeA (K : Fg) : R2 := fun x y H Q => rNe x y H Q ∨ rNeD K x y H Q
theorem lEq {K : Fg} : OPL K (rEqA K) (REq false) := by
  intro x y H h a b c Q re dx dy hr k
  unfold REq at hr
  split at hr
  · rename_i i j ea eb
    subst hr
    rw [vw_int dx ea, vw_int dy eb]
    refine .inl ⟨rfl, ?_⟩
    rw [dec_vint]
    exact k _ H (Step.refl h H) re (.bl _)
  · rename_i i j ea eb
    subst hr
    rw [vw_str dx ea, vw_str dy eb]
    refine .inl ⟨rfl, ?_⟩
    rw [dec_vstr]
    exact k _ H (Step.refl h H) re (.bl _)
  · obtain ⟨p, q, e1, e2, s1, s2, rfl⟩ := hr
    exact .inr ⟨p, q, vw_dp re dx e1, vw_dp re dy e2, s1, s2, k _ H (Step.refl h H) re (.bl _)⟩
theorem lNe {K : Fg} : OPL K (rNeA K) (REq true) := by
  intro x y H h a b c Q re dx dy hr k
  unfold REq at hr
  split at hr
  · rename_i i j ea eb
    subst hr
    rw [vw_int dx ea, vw_int dy eb]
    refine .inl ⟨rfl, ?_⟩
    rw [dec_vint]
    exact k _ H (Step.refl h H) re (.bl _)
  · rename_i i j ea eb
    subst hr
    rw [vw_str dx ea, vw_str dy eb]
    refine .inl ⟨rfl, ?_⟩
    rw [dec_vstr]
    exact k _ H (Step.refl h H) re (.bl _)
  · obtain ⟨p, q, e1, e2, s1, s2, rfl⟩ := hr
    exact .inr ⟨p, q, vw_dp re dx e1, vw_dp re dy e2, s1, s2, k _ H (Step.refl h H) re (.bl _)⟩
theorem e_eq {k : Nat} (hr : Room k X.A) (ha : PE X a (gE X.K An ga)) (hb : PE X b (gE X.K An gb)) : PE X (.Compare a [.Eq] [b] pos) (gE X.K An (gBin (REq false) ga gb)) := e_cmp (op_eq.or (op_eqD hr.units)) lEq ha hb (nomark _)
theorem e_ne {k : Nat} (hr : Room k X.A) (ha : PE X a (gE X.K An ga)) (hb : PE X b (gE X.K An gb)) : PE X (.Compare a [.NotEq] [b] pos) (gE X.K An (gBin (REq true) ga gb)) := e_cmp (op_ne.or (op_neD hr.units)) lNe ha hb (nomark _)
/-! is None -/
def isN : D → Bool
  | .non => true
  | _ => false
def RIsN (neg : Bool) : GH → D → D → Prop := fun _ a c => c = .bl (if neg then !isN a else isN a)
theorem dv_isN {K : Fg} {h : GH} {H : Hp} {v : V} {d : D} (k : Dv K h H v d) : decide (v = .non) = isN d := by
  cases k <;> rfl
theorem e_isN {j} {p : Pos} (ha : PE X a (gE X.K An ga)) : PE X (.Compare a [.Is] [.Constant .none j p] pos) (gE X.K An (gUn (RIsN false) ga)) :=
  (pe_cmpR op_isN ha pe_non (nomark _)).imp fun σ H Q ⟨s, h, P, re, l, g, k⟩ => ⟨s, h, _, re, l, g, fun x H1 a h1 s1 re1 dx ⟨c, hr, p⟩ => by
    subst hr
    refine ⟨rfl, ?_⟩
    rw [dv_isN dx]
    exact k _ H1 _ h1 s1 re1 (.bl _) p⟩
theorem e_notN {j} {p : Pos} (ha : PE X a (gE X.K An ga)) : PE X (.Compare a [.IsNot] [.Constant .none j p] pos) (gE X.K An (gUn (RIsN true) ga)) :=
  (pe_cmpR op_notN ha pe_non (nomark _)).imp fun σ H Q ⟨s, h, P, re, l, g, k⟩ => ⟨s, h, _, re, l, g, fun x H1 a h1 s1 re1 dx ⟨c, hr, p⟩ => by
    subst hr
    refine ⟨rfl, ?_⟩
    rw [dv_isN dx]
    exact k _ H1 _ h1 s1 re1 (.bl _) p⟩
/-! negation -/
def RNeg : GH → D → D → Prop := fun h a c => match vw h a with
  | .int i => c = .int (-i)
  | _ => False
theorem e_neg (ha : PE X a (gE X.K An ga)) : PE X (.UnaryOp .USub a pos) (gE X.K An (gUn RNeg ga)) := e_un un_neg (by
  intro x H h a c Q re dx hr k
  unfold RNeg at hr
  split at hr
  · rename_i i ea
    subst hr
    exact ⟨i, vw_int dx ea, k _ H (Step.refl h H) re (.int _)⟩
  · exact hr.elim) ha
/-! ### tests, and, or, not, if -/
def gB (ga : gTE) : gTT := fun s h P => ga s h fun d h1 => ∃ b, d = .bl b ∧ P b h1
def gNot (gt : gTT) : gTT := fun s h P => gt s h fun b h1 => P (!b) h1
def gAnd (gt gu : gTT) : gTT := fun s h P => gt s h fun b h1 => if b = true then gu s h1 P else P false h1
def gOr (gt gu : gTT) : gTT := fun s h P => gt s h fun b h1 => if b = true then P true h1 else gu s h1 P
variable {gt gu : gTT}
theorem dv_bl {K : Fg} {h : GH} {H : Hp} {v : V} {b : Bool} (k : Dv K h H v (.bl b)) : v = .bl b := by cases k; rfl
theorem tB_of {K : Fg} {An : AN} (σ : St) (H : Hp) (Q : Bool → Hp → Prop) (q : gT K An (gB ga) σ H Q) : tB (gE K An ga) σ H Q := by
  obtain ⟨s, h, P, re, l, g, k⟩ := q
  refine ⟨s, h, _, re, l, g, fun x H1 a h1 s1 re1 dx ⟨b, e, p⟩ => ?_⟩
  subst e
  exact ⟨b, dv_bl dx, k b H1 h1 s1 re1 p⟩
theorem t_val (ha : PE X a (gE X.K An ga)) (he : ∀ whole, isTrue a X.env whole = (do let v ← whole; standAt a.pos; holding [v] (truthy v)) := by intro _; rfl) : PT X a (gT X.K An (gB ga)) := (pt_val ha he).imp tB_of
theorem t_not (ht : PT X a (gT X.K An gt)) : PT X (.UnaryOp .Not a pos) (gT X.K An (gNot gt)) := (pt_not ht).imp fun σ H Q ⟨s, h, P, re, l, g, k⟩ => ⟨s, h, _, re, l, g, fun b H' h' s1 re1 p => k (!b) H' h' s1 re1 p⟩

variable {rest : List Expr}
theorem and_of {K : Fg} {An : AN} (σ : St) (H : Hp) (Q : Bool → Hp → Prop) (q : gT K An (gAnd gt gu) σ H Q) : tAnd (gT K An gt) (gT K An gu) σ H Q := by
  obtain ⟨s, h, P, re, l, g, k⟩ := q
  refine ⟨s, h, _, re, l, g, fun b H1 h1 s1 re1 p => ?_⟩
  cases b with
  | true =>
    rw [if_pos rfl] at p
    rw [if_pos rfl]
    exact ⟨s, h1, _, re1, l.mono s1, p, fun b H2 h2 s2 re2 p2 => k b H2 h2 (s1.trans s2) re2 p2⟩
  | false =>
    rw [if_neg Bool.false_ne_true] at p
    rw [if_neg Bool.false_ne_true]
    exact k false H1 h1 s1 re1 p
theorem or_of {K : Fg} {An : AN} (σ : St) (H : Hp) (Q : Bool → Hp → Prop) (q : gT K An (gOr gt gu) σ H Q) : tOr (gT K An gt) (gT K An gu) σ H Q := by
  obtain ⟨s, h, P, re, l, g, k⟩ := q
  refine ⟨s, h, _, re, l, g, fun b H1 h1 s1 re1 p => ?_⟩
  cases b with
  | true =>
    rw [if_pos rfl] at p
    rw [if_pos rfl]
    exact k true H1 h1 s1 re1 p
  | false =>
    rw [if_neg Bool.false_ne_true] at p
    rw [if_neg Bool.false_ne_true]
    exact ⟨s, h1, _, re1, l.mono s1, p, fun b H2 h2 s2 re2 p2 => k b H2 h2 (s1.trans s2) re2 p2⟩
theorem w_and1 (ha : PT X a (gT X.K An gt)) : PW X (.BoolOp .And [a] pos) (gT X.K An gt) := pw_and1 ha
theorem w_or1 (ha : PT X a (gT X.K An gt)) : PW X (.BoolOp .Or [a] pos) (gT X.K An gt) := pw_or1 ha
theorem w_and (ha : PT X a (gT X.K An gt)) (hb : PW X (.BoolOp .And (b :: rest) pos) (gT X.K An gu)) : PW X (.BoolOp .And (a :: b :: rest) pos) (gT X.K An (gAnd gt gu)) := (pw_and ha hb).imp and_of
theorem w_or (ha : PT X a (gT X.K An gt)) (hb : PW X (.BoolOp .Or (b :: rest) pos) (gT X.K An gu)) : PW X (.BoolOp .Or (a :: b :: rest) pos) (gT X.K An (gOr gt gu)) := (pw_or ha hb).imp or_of
/-! as values, of truth values -/
def gAndV (ga gb : gTE) : gTE := fun s h P => ga s h fun a h1 => ∃ c, a = .bl c ∧ if c = true then gb s h1 P else P (.bl false) h1
def gOrV (ga gb : gTE) : gTE := fun s h P => ga s h fun a h1 => ∃ c, a = .bl c ∧ if c = true then P (.bl true) h1 else gb s h1 P
def gNotV (ga : gTE) : gTE := fun s h P => ga s h fun a h1 => ∃ c, a = .bl c ∧ P (.bl (!c)) h1
theorem e_one {op} (h : PE X a (gE X.K An ga)) : PE X (.BoolOp op [a] pos) (gE X.K An ga) := pe_one h
theorem e_and (ha : PE X a (gE X.K An ga)) (hb : PE X (.BoolOp .And (b :: rest) pos) (gE X.K An gb)) : PE X (.BoolOp .And (a :: b :: rest) pos) (gE X.K An (gAndV ga gb)) := (pe_and ha hb).imp fun σ H Q ⟨s, h, P, re, l, g, k⟩ => by
  refine ⟨s, h, _, re, l, g, fun x H1 a h1 s1 re1 dx ⟨c, e, p⟩ => ?_⟩
  subst e
  refine ⟨c, dv_bl dx, ?_⟩
  cases c with
  | true =>
    rw [if_pos rfl] at p
    rw [if_pos rfl]
    exact ⟨s, h1, _, re1, l.mono s1, p, fun v H2 d h2 s2 re2 dv p2 => k v H2 d h2 (s1.trans s2) re2 dv p2⟩
  | false =>
    rw [if_neg Bool.false_ne_true] at p
    rw [if_neg Bool.false_ne_true]
    exact k _ H1 _ h1 s1 re1 (.bl _) p
theorem e_or (ha : PE X a (gE X.K An ga)) (hb : PE X (.BoolOp .Or (b :: rest) pos) (gE X.K An gb)) : PE X (.BoolOp .Or (a :: b :: rest) pos) (gE X.K An (gOrV ga gb)) := (pe_or ha hb).imp fun σ H Q ⟨s, h, P, re, l, g, k⟩ => by
  refine ⟨s, h, _, re, l, g, fun x H1 a h1 s1 re1 dx ⟨c, e, p⟩ => ?_⟩
  subst e
  refine ⟨c, dv_bl dx, ?_⟩
  cases c with
  | true =>
    rw [if_pos rfl] at p
    rw [if_pos rfl]
    exact k _ H1 _ h1 s1 re1 (.bl _) p
  | false =>
    rw [if_neg Bool.false_ne_true] at p
    rw [if_neg Bool.false_ne_true]
    exact ⟨s, h1, _, re1, l.mono s1, p, fun v H2 d h2 s2 re2 dv p2 => k v H2 d h2 (s1.trans s2) re2 dv p2⟩
theorem e_not (ha : PE X a (gE X.K An ga)) : PE X (.UnaryOp .Not a pos) (gE X.K An (gNotV ga)) := (pe_not ha).imp fun σ H Q ⟨s, h, P, re, l, g, k⟩ => ⟨s, h, _, re, l, g, fun x H1 a h1 s1 re1 dx ⟨c, e, p⟩ => by
  subst e
  exact ⟨c, dv_bl dx, k _ H1 _ h1 s1 re1 (.bl _) p⟩⟩
def gIf (gt : gTT) (ga gb : gTE) : gTE := fun s h P => gt s h fun c h1 => if c = true then ga s h1 P else gb s h1 P
theorem e_if (hc : PT X c (gT X.K An gt)) (ha : PE X a (gE X.K An ga)) (hb : PE X b (gE X.K An gb)) : PE X (.IfExp c a b pos) (gE X.K An (gIf gt ga gb)) := (pe_ifExp hc ha hb).imp fun σ H Q ⟨s, h, P, re, l, g, k⟩ => by
  refine ⟨s, h, _, re, l, g, fun c H1 h1 s1 re1 p => ?_⟩
  cases c with
  | true =>
    rw [if_pos rfl] at p
    rw [if_pos rfl]
    exact ⟨s, h1, _, re1, l.mono s1, p, fun v H2 d h2 s2 re2 dv p2 => k v H2 d h2 (s1.trans s2) re2 dv p2⟩
  | false =>
    rw [if_neg Bool.false_ne_true] at p
    rw [if_neg Bool.false_ne_true]
    exact ⟨s, h1, _, re1, l.mono s1, p, fun v H2 d h2 s2 re2 dv p2 => k v H2 d h2 (s1.trans s2) re2 dv p2⟩
/-- a < b < c -/
def gChain (R R' : R3) (ga gb gc : gTE) : gTE := fun s h P => ga s h fun a h1 => gb s h1 fun b h2 => ∃ z, R h2 a b (.bl z) ∧ if z = true then gc s h2 fun c h3 => ∃ y, R' h3 b c y ∧ P y h3 else P (.bl false) h2
theorem e_chain {op op' : CmpOp} {r r' : R2} {R R' : R3} (ho : OpR X (compareOp op) r) (ho' : OpR X (compareOp op') r') (o : OPL X.K r R) (o' : OPL X.K r' R') (ha : PE X a (gE X.K An ga)) (hb : PE X b (gE X.K An gb)) (hc : PE X c (gE X.K An gc)) (hm : lastMarks [op, op'] [b, c] = false) :
    PE X (.Compare a [op, op'] [b, c] pos) (gE X.K An (gChain R R' ga gb gc)) := (pe_chain ho ho' ha hb hc hm).imp fun σ H Q ⟨s, h, P, re, l, g, k⟩ => by
  refine ⟨s, h, _, re, l, g, fun x H1 a h1 s1 re1 dx g1 => ?_⟩
  refine ⟨s, h1, _, re1, l.mono s1, g1, fun y H2 b h2 s2 re2 dy ⟨z, hz, g2⟩ => ?_⟩
  refine o x y H2 h2 a b (.bl z) _ re2 (dx.mono s2) dy hz fun v H3 s3 re3 dv => ⟨z, dv_bl dv, ?_⟩
  have s13 := (s1.trans s2).trans s3
  cases z with
  | true =>
    rw [if_pos rfl] at g2
    rw [if_pos rfl]
    refine ⟨s, h2, _, re3, l.mono s13, g2, fun y' H4 c h4 s4 re4 dy' ⟨y2, hy, p⟩ => ?_⟩
    exact o' y y' H4 h4 b c y2 Q re4 (dy.mono (s3.trans s4)) dy' hy fun v H5 s5 re5 dv => k v H5 y2 h4 ((s13.trans s4).trans s5) re5 dv p
  | false =>
    rw [if_neg Bool.false_ne_true] at g2
    rw [if_neg Bool.false_ne_true]
    exact k _ H3 _ h2 s13 re3 (.bl _) g2
/-! ### subscripts -/
def RIx : R3 := fun h a b c => match vw h a, vw h b with
  | .lst ds, .int i => atI ds i = some c
  | .tup ds, .int i => atI ds i = some c
  | .str x, .int i => x.length ≤ sizeLine ∧ ∃ k, atI x.cps.toList i = some k ∧ c = .str ⟨#[k]⟩
  | _, _ => False
theorem Dvs.at {K : Fg} {h : GH} {H : Hp} {vs : List V} {ds : List D} {i : Int} {d : D} (r : Dvs K h H vs ds) (e : atI ds i = some d) : ∃ v, atI vs i = some v ∧ Dv K h H v d := by
  unfold atI at e ⊢
  rw [r.length]
  cases q : ixN ds.length i with
  | none => rw [q] at e; cases e
  | some j =>
    rw [q] at e
    obtain ⟨v, h1, h2⟩ := r.get (show ds[j]? = some d from e)
    exact ⟨v, h1, h2⟩
theorem lIx {K : Fg} : OPL K (rIx K) RIx := by
  intro x y H h a b c Q re dx dy hr k
  unfold RIx at hr
  split at hr
  · rename_i ds i ea eb
    obtain ⟨p, xs, e1, q, rs⟩ := vw_lst re dx ea
    obtain ⟨v, hv, dv⟩ := rs.at hr
    exact .inl ⟨p, xs, i, v, e1, vw_int dy eb, .inl (.inl q), hv, k v H (Step.refl h H) re dv⟩
  · rename_i ds i ea eb
    obtain ⟨p, xs, e1, q, rs⟩ := vw_tup dx ea
    obtain ⟨v, hv, dv⟩ := rs.at hr
    exact .inr (.inl ⟨p, xs, i, v, e1, vw_int dy eb, q.sq, hv, k v H (Step.refl h H) re dv⟩)
  · rename_i x i ea eb
    obtain ⟨hz, j, hj, rfl⟩ := hr
    exact .inr (.inr ⟨x, i, j, vw_str dx ea, vw_int dy eb, hz, hj, k _ H (Step.refl h H) re (.str _)⟩)
  · exact hr.elim
theorem e_ix (ha : PE X a (gE X.K An ga)) (hb : PE X b (gE X.K An gb)) (hs : PlainIx b := by exact fun _ _ => rfl) : PE X (.Subscript a b pos) (gE X.K An (gBin RIx ga gb)) := (pe_ix ix_seq ha hb hs).imp fun σ H Q q => two lIx σ H Q q
/-! slices -/
abbrev gTO := GS → GH → (Option Int → GH → Prop) → Prop
def gO (K : Fg) (An : AN) (g : gTO) : TO := fun σ H Q => ∃ s h P, Rel K h H ∧ Sl K An h H σ s ∧ g s h P ∧ ∀ o H' h', Step h H h' H' → Rel K h' H' → P o h' → Q o H'
def gNoPart : gTO := fun _ h P => P none h
def gPart (ga : gTE) : gTO := fun s h P => ga s h fun d h1 => ∃ i, d = .int i ∧ P (some i) h1
theorem _root_.L2.PO.imp {e : Option Expr} {t t' : TO} (h : PO X e t) (k : ∀ σ H Q, t' σ H Q → t σ H Q) : PO X e t' := ⟨fun pins s σ H Q I q => h.run pins s σ H Q I (k σ H Q q)⟩
theorem o_none : PO X none (gO X.K An gNoPart) := po_none.imp fun σ H Q ⟨s, h, P, re, l, g, k⟩ => k none H h (Step.refl h H) re g
theorem o_some (ha : PE X a (gE X.K An ga)) : PO X (some a) (gO X.K An (gPart ga)) := (po_some ha).imp fun σ H Q ⟨s, h, P, re, l, g, k⟩ => ⟨s, h, _, re, l, g, fun x H1 a h1 s1 re1 dx ⟨i, e, p⟩ => by
  subst e
  cases dx
  exact ⟨i, rfl, k _ H1 h1 s1 re1 p⟩⟩
def cutD {α : Type} (xs : List α) (lo hi : Option Int) : List α := (xs.drop (HT.sIx xs.length 0 lo)).take (HT.sIx xs.length xs.length hi - HT.sIx xs.length 0 lo)
def RSl : GH → D → Option Int → Option Int → D → Prop := fun h a lo hi c => match vw h a with
  | .lst ds => c = .lst (cutD ds lo hi)
  | .tup ds => c = .tup (cutD ds lo hi)
  | .str x => x.length ≤ sizeLine ∧ c = .str (cutS x lo hi)
  | .fro ds => c = .lst (cutD ds lo hi)
  | _ => False
def gSl (ga : gTE) (gl gh : gTO) : gTE := fun s h P => ga s h fun a h1 => gl s h1 fun lo h2 => gh s h2 fun hi h3 => ∃ c, RSl h3 a lo hi c ∧ P c h3
theorem Dvs.cut {K : Fg} {h : GH} {H : Hp} {vs : List V} {ds : List D} {lo hi : Option Int} (r : Dvs K h H vs ds) : Dvs K h H (cutV vs lo hi) (cutD ds lo hi) := by
  unfold cutV cutD
  rw [r.length]
  exact (r.drop _).take _
def rSlAll (K : Fg) : V → Option Int → Option Int → Hp → VK → Prop := fun x lo hi H Q => rSlL K x lo hi H Q ∨ rSlA K x lo hi H Q ∨ rSlS x lo hi H Q
theorem slOr {r r' : V → Option Int → Option Int → Hp → VK → Prop} (h : SlR X r) (h' : SlR X r') : SlR X (fun x lo hi H Q => r x lo hi H Q ∨ r' x lo hi H Q) := by
  intro pins s σ H x v vl vu lo hi sl Q I rx hs pl pu q
  rcases q with q | q
  · exact h pins s σ H x v vl vu lo hi sl Q I rx hs pl pu q
  · exact h' pins s σ H x v vl vu lo hi sl Q I rx hs pl pu q
theorem sl_all : SlR X (rSlAll X.K) := slOr sl_list (slOr sl_tupA sl_str)
theorem e_sl {lo hi : Option Expr} {gl gh : gTO} {p2 : Pos} (ha : PE X a (gE X.K An ga)) (hl : PO X lo (gO X.K An gl)) (hh : PO X hi (gO X.K An gh)) : PE X (.Subscript a (.Slice lo hi none p2) pos) (gE X.K An (gSl ga gl gh)) := (pe_slice sl_all ha hl hh).imp fun σ H Q ⟨s, h, P, re, l, g, k⟩ => by
  refine ⟨s, h, _, re, l, g, fun x H1 a h1 s1 re1 dx g1 => ?_⟩
  refine ⟨s, h1, _, re1, l.mono s1, g1, fun lo H2 h2 s2 re2 g2 => ?_⟩
  refine ⟨s, h2, _, re2, l.mono (s1.trans s2), g2, fun hi H3 h3 s3 re3 ⟨c, hc, p⟩ => ?_⟩
  have s13 := (s1.trans s2).trans s3
  have dx3 := dx.mono (s2.trans s3)
  unfold RSl at hc
  split at hc
  · rename_i ds ea
    subst hc
    obtain ⟨pa, xs, e1, q, rs⟩ := vw_lst re3 dx3 ea
    exact .inl ⟨pa, xs, e1, .inl (.inl q), fun t n => k _ _ _ h3 (s13.trans (Step.new n)) (re3.new n) (rs.cut.lst_new re3 n) p⟩
  · rename_i ds ea
    subst hc
    obtain ⟨pa, xs, e1, q, rs⟩ := vw_tup dx3 ea
    refine .inr (.inl ⟨pa, xs, e1, q.sq, fun z => ?_, fun z t n => ?_⟩)
    · have e : cutD ds lo hi = ds := by
        unfold cutD
        rw [← rs.length, z.1, z.2, List.drop_zero, Nat.sub_zero, rs.length, List.take_length]
      rw [e] at p
      exact k _ H3 _ h3 s13 re3 (.tup q rs) p
    · exact k _ _ _ h3 (s13.trans (Step.new n)) (re3.new n) (rs.cut.tup_new re3 n) p
  · rename_i x ea
    obtain ⟨hz, rfl⟩ := hc
    exact .inr (.inr ⟨x, vw_str dx3 ea, hz, k _ H3 _ h3 s13 re3 (.str _) p⟩)
  · rename_i ds ea
    subst hc
    obtain ⟨pa, xs, e1, q, rs⟩ := vw_fro dx3 ea
    exact .inl ⟨pa, xs, e1, q.sq, fun t n => k _ _ _ h3 (s13.trans (Step.new n)) (re3.new n) (rs.cut.lst_new re3 n) p⟩
  · exact hc.elim
end
end Gh

namespace Gh
open PySem L2
theorem put_del {h : GH} {p : Addr} {g : GO} (e : h p = none) : del (put h p g) p = h := by
  funext b
  by_cases z : b = p
  · subst z; rw [del_same, e]
  · rw [del_ne z, put_ne z]
theorem put_put {h : GH} {p : Addr} {g g' : GO} : put (put h p g) p g' = put h p g' := by
  funext b
  by_cases z : b = p
  · subst z; rw [put_same, put_same]
  · rw [put_ne z, put_ne z, put_ne z]
section
variable {X : Cx} {An : AN} {a b e : Expr} {es : List Expr} {ga gb : gTE} {gas : gTA} {pos : Pos}
/-! ### arguments, displays -/
def aNil : gTA := fun _ h P => P [] h
def aCons (ga : gTE) (gr : gTA) : gTA := fun s h P => ga s h fun d h1 => gr s h1 fun ds h2 => P (d :: ds) h2
theorem a_nil : PA X [] (gA X.K An aNil) := pa_nil.imp fun σ H Q ⟨s, h, P, re, l, g, k⟩ => k _ H _ h (Step.refl h H) re .nil g
theorem a_cons (ha : PE X e (gE X.K An ga)) (hr : PA X es (gA X.K An gas)) (hs : starEach (e :: es) X.env = (false, eval e X.env) :: starEach es X.env := by rfl) : PA X (e :: es) (gA X.K An (aCons ga gas)) := (pa_cons ha hr hs).imp fun σ H Q ⟨s, h, P, re, l, g, k⟩ => by
  refine ⟨s, h, _, re, l, g, fun x H1 d h1 s1 re1 dx g1 => ?_⟩
  exact ⟨s, h1, _, re1, l.mono s1, g1, fun xs H2 ds h2 s2 re2 dxs p => k _ H2 _ h2 (s1.trans s2) re2 (.cons (dx.mono s2) dxs) p⟩
def gTup (ga : gTA) : gTE := fun s h P => ga s h fun ds h1 => ds.length ≤ sizeLine ∧ P (.tup ds) h1
def fLst (ga : gTA) : gTA := fun s h P => ga s h fun ds h1 => ds.length ≤ sizeLine ∧ P ds h1
theorem e_tup {x1} (ha : PA X es (gA X.K An gas)) : PE X (.Tuple es x1 pos) (gE X.K An (gTup gas)) := (pe_tup ha).imp fun σ H Q ⟨s, h, P, re, l, g, k⟩ => ⟨s, h, _, re, l, g, fun xs H1 ds h1 s1 re1 dxs ⟨hz, p⟩ => by
  refine ⟨by rw [dxs.length]; exact hz, fun t n => ?_⟩
  exact k _ _ _ h1 (s1.trans (Step.new n)) (re1.new n) (dxs.tup_new re1 n) p⟩
theorem Rel.newO {K : Fg} {h : GH} {H : Hp} {p : Addr} {xs : List V} {ds : List D} (r : Rel K h H) (n : H p = none) (k : Dvs K h H xs ds) : Rel K (Gh.put h p (GO.lst ds)) (upd H p (.lst xs)) :=
  r.put (g := GO.lst ds) (Step.newO n) ⟨xs, upd_same, k.mono (Step.newO n)⟩
theorem f_lst (ha : PA X es (gA X.K An gas)) : PE X (.List es pos) (gF X.K An (fLst gas)) := (pe_lst ha).imp fun σ H Q ⟨s, h, P, re, l, g, k⟩ => ⟨s, h, _, re, l, g, fun xs H1 ds h1 s1 re1 dxs ⟨hz, p⟩ => by
  refine ⟨by rw [dxs.length]; exact hz, fun t n => ?_⟩
  exact k t ds _ h1 (re1.free n) (s1.trans (Step.newO n)) (re1.newO n dxs) p⟩
/-- a new list as a value -/
def gFr (g : gTA) : gTE := fun s h P => g s h fun ds h1 => P (.lst ds) h1
theorem Rel.letgo {K : Fg} {h : GH} {H : Hp} {p : Addr} {ds : List D} (r : Rel K h H) (e : h p = some (.lst ds)) : Dv K (Gh.del h p) H (.ref p) (.lst ds) := by
  obtain ⟨xs, q, rs⟩ := r p _ e
  exact .lst del_same q (rs.mono Step.del)
theorem e_fr {g : gTA} (he : PE X e (gF X.K An g)) : PE X e (gE X.K An (gFr g)) := he.imp fun σ H Q ⟨s, h, P, re, l, g, k⟩ => ⟨s, h, _, re, l, g, fun p ds H' h1 n s1 re1 pp => by
  have d := re1.letgo put_same
  have re2 := re1.del (p := p)
  have s2 : Step h H (Gh.del (Gh.put h1 p (GO.lst ds)) p) H' := s1.trans Step.del
  rw [put_del n] at d re2 s2
  exact k _ H' _ h1 s2 re2 d pp⟩
/-! ### calls of defs -/
abbrev GSpec := List D → GH → GP → Prop
def GSP (K : Fg) (S : GSpec) : Sp := fun vs H Q _ => ∃ ds h P, Rel K h H ∧ Dvs K h H vs ds ∧ S ds h P ∧ ∀ v H' d h', Step h H h' H' → Rel K h' H' → Dv K h' H' v d → P d h' → Q v H'
/-- a def of the module, by its name -/
def Fc (P : Program) (w : World) (K : Fg) (mg : Str → Option Value) (base : Heap) (k : Nat) (x : Str) (S : GSpec) : Prop :=
  ∃ f : Addr, FnR P w K mg base CX0 k f (GSP K S) ∧ mg x = some (.ref f) ∧ PySem.W.keepIn K (.ref f) = true
theorem Fc.mono {P : Program} {w : World} {K : Fg} {mg : Str → Option Value} {base : Heap} {j k : Nat} {x : Str} {S : GSpec} (c : Fc P w K mg base j x S) (h : j ≤ k) : Fc P w K mg base k x S :=
  let ⟨f, F, m, kp⟩ := c; ⟨f, F.mono h, m, kp⟩
theorem Fc.imp {P : Program} {w : World} {K : Fg} {mg : Str → Option Value} {base : Heap} {k : Nat} {x : Str} {S S' : GSpec} (c : Fc P w K mg base k x S) (h : ∀ ds h P, S' ds h P → S ds h P) : Fc P w K mg base k x S' :=
  let ⟨f, F, m, kp⟩ := c; ⟨f, F.imp fun vs H Q E ⟨ds, h0, P, re, dv, s, k⟩ => ⟨ds, h0, P, re, dv, h _ _ _ s, k⟩, m, kp⟩
def gCall (S : GSpec) (ga : gTA) : gTE := fun s h P => ga s h fun ds h1 => S ds h1 P
theorem call_of {K : Fg} {An : AN} {S : GSpec} {E : XK} (σ : St) (H : Hp) (Q : VK) (q : gE K An (gCall S gas) σ H Q) : gA K An gas σ H fun vs H1 => GSP K S vs H1 Q E := by
  obtain ⟨s, h, P, re, l, g, k⟩ := q
  refine ⟨s, h, _, re, l, g, fun vs H1 ds h1 s1 re1 dvs g1 => ?_⟩
  exact ⟨ds, h1, P, re1, dvs, g1, fun v H' d h' s2 re2 dv p => k v H' d h' (s1.trans s2) re2 dv p⟩
theorem e_call {k j : Nat} {x : Str} {S : GSpec} {p : Pos} (c : Fc X.prog X.w X.K X.mg X.base k x S) (hr : Room j X.A) (hk : k ≤ j) (ha : PA X (e :: es) (gA X.K An gas)) (hg : Gl X x := by rfl) (hdb : (x == ("__debug__" : Str)) = false := by decide)
    (he : starEach (e :: es) X.env = (false, eval e X.env) :: starEach es X.env := by rfl) (hpl : (backTo pos (starEach es X.env)).any (·.1) = false := by rfl) :
    PE X (.Call (.Name x p) (e :: es) [] pos) (gE X.K An (gCall S gas)) := by
  obtain ⟨f, F, hm, kp⟩ := c
  refine ⟨fun pins s σ H Q I h => ?_⟩
  refine wpAny_Call_Name_kw (ld_glob I hg hm ?_ hdb)
  refine PySem.W.callWith_K (h₀ := X.base) I.ok.mod.kin kp (thn (ha.run pos pins s σ H _ I (call_of (E := E0) σ H Q h)) fun us s1 ⟨vs, H1, I1, r, q⟩ => ⟨I1.kIn, ?_⟩) he hpl
  exact wpAny_call (run_fnR F (hr.mono hk) pass0 I1 r q)
theorem e_call0 {k j : Nat} {x : Str} {S : GSpec} {p : Pos} (c : Fc X.prog X.w X.K X.mg X.base k x S) (hr : Room j X.A) (hk : k ≤ j) (hg : Gl X x := by rfl) (hdb : (x == ("__debug__" : Str)) = false := by decide) :
    PE X (.Call (.Name x p) [] [] pos) (gE X.K An (gCall S aNil)) := by
  obtain ⟨f, F, hm, kp⟩ := c
  refine ⟨fun pins s σ H Q I h => ?_⟩
  refine wpAny_Call_Name_kw (ld_glob I hg hm ?_ hdb)
  obtain ⟨sl, h0, P, re, l, g, k⟩ := h
  exact PySem.W.callWith_K0 I.kIn kp (wpAny_call (run_fnR (us := []) F (hr.mono hk) pass0 I .nil ⟨[], h0, P, re, .nil, g, k⟩))
/-! ### calls of built-ins -/
abbrev RC2 := GH → List D → D → Prop
def CLL (K : Fg) (r : List V → Hp → VK → Prop) (R : RC2) : Prop := ∀ vs H h ds c Q, Rel K h H → Dvs K h H vs ds → R h ds c → (∀ v H', Step h H h H' → Rel K h H' → Dv K h H' v c → Q v H') → r vs H Q
def gCB (R : RC2) (ga : gTA) : gTE := fun s h P => ga s h fun ds h1 => ∃ c, R h1 ds c ∧ P c h1
theorem cb_of {K : Fg} {An : AN} {r : List V → Hp → VK → Prop} {R : RC2} (o : CLL K r R) (σ : St) (H : Hp) (Q : VK) (q : gE K An (gCB R gas) σ H Q) : tCB r (gA K An gas) σ H Q := by
  obtain ⟨s, h, P, re, l, g, k⟩ := q
  refine ⟨s, h, _, re, l, g, fun vs H1 ds h1 s1 re1 dvs ⟨c, hc, p⟩ => ?_⟩
  exact o vs H1 h1 ds c Q re1 dvs hc fun v H' s2 re2 dv => k v H' c h1 (s1.trans s2) re2 dv p
theorem e_cb {x : Str} {id : String} {r : List V → Hp → VK → Prop} {R : RC2} {p : Pos} (hc : CallR X (.builtin id) r) (o : CLL X.K r R) (hm : X.mg x = none) (hv : bootBuiltins x = some (.builtin id)) (ha : PA X (e :: es) (gA X.K An gas)) (hg : Gl X x := by rfl)
    (hn : x ≠ "__name__" := by decide) (hd : (x == ("__debug__" : Str)) = false := by decide) (he : starEach (e :: es) X.env = (false, eval e X.env) :: starEach es X.env := by rfl) (hpl : (backTo pos (starEach es X.env)).any (·.1) = false := by rfl) :
    PE X (.Call (.Name x p) (e :: es) [] pos) (gE X.K An (gCB R gas)) := (pe_callB hc hg hm hv ha hn hd he hpl).imp (cb_of o)
end
end Gh

namespace Gh
open PySem L2
/-! ### built-ins -/
section
variable {X : Cx} {An : AN} {a b e : Expr} {es : List Expr} {ga gb : gTE} {gas : gTA} {pos p : Pos}
def RLen : RC2 := fun h ds c => ∃ d, ds = [d] ∧ match vw h d with
  | .lst xs => c = .int (xs.length : Nat)
  | .tup xs => c = .int (xs.length : Nat)
  | .str x => x.length ≤ sizeLine ∧ c = .int (x.length : Nat)
  | _ => False
theorem dvs1 {K : Fg} {h : GH} {H : Hp} {vs : List V} {d : D} (k : Dvs K h H vs [d]) : ∃ v, vs = [v] ∧ Dv K h H v d := by
  cases k with
  | cons a r => cases r; exact ⟨_, rfl, a⟩
theorem dvs2 {K : Fg} {h : GH} {H : Hp} {vs : List V} {d d' : D} (k : Dvs K h H vs [d, d']) : ∃ v v', vs = [v, v'] ∧ Dv K h H v d ∧ Dv K h H v' d' := by
  cases k with
  | cons a r =>
    obtain ⟨v', rfl, q⟩ := dvs1 r
    exact ⟨_, _, rfl, a, q⟩
theorem lLen {K : Fg} : CLL K (fun xs H Q => ∃ x n, xs = [x] ∧ LenV K x H n ∧ Q (.int n) H) RLen := by
  intro vs H h ds c Q re dvx hr k
  obtain ⟨d, rfl, hr⟩ := hr
  obtain ⟨v, rfl, dv⟩ := dvs1 dvx
  split at hr
  · rename_i xs ea
    subst hr
    obtain ⟨q, ys, e1, h1, rs⟩ := vw_lst re dv ea
    refine ⟨v, xs.length, rfl, ?_, k _ H (Step.refl h H) re (.int _)⟩
    rw [e1]
    exact .inl ⟨ys, .inl (.inl h1), rs.length.symm⟩
  · rename_i xs ea
    subst hr
    obtain ⟨q, ys, e1, h1, rs⟩ := vw_tup dv ea
    refine ⟨v, xs.length, rfl, ?_, k _ H (Step.refl h H) re (.int _)⟩
    rw [e1]
    exact .inr ⟨ys, h1.sq, rs.length.symm⟩
  · rename_i x ea
    obtain ⟨hz, rfl⟩ := hr
    refine ⟨v, x.length, rfl, ?_, k _ H (Step.refl h H) re (.int _)⟩
    rw [vw_str dv ea]
    exact ⟨hz, rfl⟩
  · exact hr.elim
theorem e_len (hm : X.mg "len" = none) (ha : PA X [e] (gA X.K An gas)) (hg : Gl X "len" := by rfl) (he : starEach [e] X.env = [(false, eval e X.env)] := by rfl) : PE X (.Call (.Name "len" p) [e] [] pos) (gE X.K An (gCB RLen gas)) :=
  e_cb call_len lLen hm PySem.boot_len ha hg (by decide) (by decide) he (by rfl)
def RAbs : RC2 := fun h ds c => ∃ d, ds = [d] ∧ match vw h d with
  | .int i => c = .int (i.natAbs : Nat)
  | _ => False
theorem lAbs {K : Fg} : CLL K (fun xs H Q => ∃ i, xs = [.int i] ∧ Q (.int (if i < 0 then -i else i)) H) RAbs := by
  intro vs H h ds c Q re dvx hr k
  obtain ⟨d, rfl, hr⟩ := hr
  obtain ⟨v, rfl, dv⟩ := dvs1 dvx
  split at hr
  · rename_i i ea
    subst hr
    refine ⟨i, by rw [vw_int dv ea], ?_⟩
    have e : (if i < 0 then -i else i) = ((i.natAbs : Nat) : Int) := by split <;> omega
    rw [e]
    exact k _ H (Step.refl h H) re (.int _)
  · exact hr.elim
theorem e_abs (hm : X.mg "abs" = none) (ha : PA X [e] (gA X.K An gas)) (hg : Gl X "abs" := by rfl) (he : starEach [e] X.env = [(false, eval e X.env)] := by rfl) : PE X (.Call (.Name "abs" p) [e] [] pos) (gE X.K An (gCB RAbs gas)) :=
  e_cb call_abs lAbs hm (by decide +kernel) ha hg (by decide) (by decide) he (by rfl)
theorem e_ct {x : Str} {T : String} {r : List V → Hp → VK → Prop} {R : RC2} (hc : CallR X (.type T) r) (o : CLL X.K r R) (hm : X.mg x = none) (hv : bootBuiltins x = some (.type T)) (ha : PA X (e :: es) (gA X.K An gas)) (hg : Gl X x := by rfl)
    (hn : x ≠ "__name__" := by decide) (hd : (x == ("__debug__" : Str)) = false := by decide) (he : starEach (e :: es) X.env = (false, eval e X.env) :: starEach es X.env := by rfl) (hpl : (backTo pos (starEach es X.env)).any (·.1) = false := by rfl) :
    PE X (.Call (.Name x p) (e :: es) [] pos) (gE X.K An (gCB R gas)) := (pe_callTy hc hg hm hv ha hn hd he hpl).imp (cb_of o)
def RInt : RC2 := fun h ds c => ∃ d, ds = [d] ∧ match vw h d with
  | .int i => c = .int i
  | .bl b => c = .int (if b then 1 else 0)
  | .str x => x.length ≤ 640 ∧ ∃ n, PySem.intText? x = some n ∧ c = .int n
  | _ => False
def rIntA : List V → Hp → VK → Prop := fun xs H Q => ((∃ i, xs = [.int i] ∧ Q (.int i) H) ∨ ∃ k, xs = [.bl k] ∧ Q (.int (if k then 1 else 0)) H) ∨ ∃ a n, xs = [.str a] ∧ PySem.intText? a = some n ∧ a.length ≤ 640 ∧ Q (.int n) H
theorem crOr {f : Value} {r r' : List V → Hp → VK → Prop} (h : CallR X f r) (h' : CallR X f r') : CallR X f (fun xs H Q => r xs H Q ∨ r' xs H Q) := by
  intro pins s σ H xs us Q I rv q
  rcases q with q | q
  · exact h pins s σ H xs us Q I rv q
  · exact h' pins s σ H xs us Q I rv q
theorem lInt {K : Fg} : CLL K rIntA RInt := by
  intro vs H h ds c Q re dvx hr k
  obtain ⟨d, rfl, hr⟩ := hr
  obtain ⟨v, rfl, dv⟩ := dvs1 dvx
  split at hr
  · rename_i i ea
    subst hr
    exact .inl (.inl ⟨i, by rw [vw_int dv ea], k _ H (Step.refl h H) re (.int _)⟩)
  · rename_i i ea
    subst hr
    exact .inl (.inr ⟨i, by rw [vw_bl dv ea], k _ H (Step.refl h H) re (.int _)⟩)
  · rename_i x ea
    obtain ⟨hz, n, hn, rfl⟩ := hr
    exact .inr ⟨x, n, by rw [vw_str dv ea], hn, hz, k _ H (Step.refl h H) re (.int _)⟩
  · exact hr.elim
theorem e_intc (hm : X.mg "int" = none) (ha : PA X [e] (gA X.K An gas)) (hg : Gl X "int" := by rfl) (he : starEach [e] X.env = [(false, eval e X.env)] := by rfl) : PE X (.Call (.Name "int" p) [e] [] pos) (gE X.K An (gCB RInt gas)) :=
  e_ct (crOr call_int1 call_int_str) lInt hm (by decide +kernel) ha hg (by decide) (by decide) he (by rfl)
def bls : List D → Option (List Bool)
  | [] => some []
  | .bl b :: r => (bls r).map (b :: ·)
  | _ => none
theorem Dvs.bls {K : Fg} {h : GH} {H : Hp} : ∀ {vs : List V} {ds : List D} {bs : List Bool}, Dvs K h H vs ds → Gh.bls ds = some bs → vs = bs.map V.bl
  | _, _, _, .nil, e => by cases e; rfl
  | _, _, _, .cons (d := d) (ds := ds) a r, e => by
    cases d with
    | bl b =>
      rw [Gh.bls] at e
      cases q : Gh.bls ds with
      | none => rw [q] at e; cases e
      | some cs =>
        rw [q] at e
        cases e
        cases a
        rw [Dvs.bls r q]
        rfl
    | _ => cases e
def RAll (any : Bool) : RC2 := fun h ds c => ∃ d xs bs, ds = [d] ∧ vw h d = .lst xs ∧ bls xs = some bs ∧ c = .bl (if any then bs.any id else bs.all id)
theorem lAll {K : Fg} : CLL K (rAll K) (RAll false) := by
  intro vs H h ds c Q re dvx hr k
  obtain ⟨d, xs, bs, rfl, ea, eb, rfl⟩ := hr
  obtain ⟨v, rfl, dv⟩ := dvs1 dvx
  obtain ⟨q, ys, e1, h1, rs⟩ := vw_lst re dv ea
  have e2 := rs.bls eb
  subst e2
  exact ⟨q, bs, by rw [e1], .inl (.inl h1), k _ H (Step.refl h H) re (.bl _)⟩
theorem lAny {K : Fg} : CLL K (rAny K) (RAll true) := by
  intro vs H h ds c Q re dvx hr k
  obtain ⟨d, xs, bs, rfl, ea, eb, rfl⟩ := hr
  obtain ⟨v, rfl, dv⟩ := dvs1 dvx
  obtain ⟨q, ys, e1, h1, rs⟩ := vw_lst re dv ea
  have e2 := rs.bls eb
  subst e2
  exact ⟨q, bs, by rw [e1], .inl (.inl h1), k _ H (Step.refl h H) re (.bl _)⟩
theorem e_all (hc : X.calm = true) (hm : X.mg "all" = none) (ha : PA X [e] (gA X.K An gas)) (hg : Gl X "all" := by rfl) (he : starEach [e] X.env = [(false, eval e X.env)] := by rfl) : PE X (.Call (.Name "all" p) [e] [] pos) (gE X.K An (gCB (RAll false) gas)) :=
  e_cb (cr_all hc) lAll hm (by decide +kernel) ha hg (by decide) (by decide) he (by rfl)
theorem e_any (hc : X.calm = true) (hm : X.mg "any" = none) (ha : PA X [e] (gA X.K An gas)) (hg : Gl X "any" := by rfl) (he : starEach [e] X.env = [(false, eval e X.env)] := by rfl) : PE X (.Call (.Name "any" p) [e] [] pos) (gE X.K An (gCB (RAll true) gas)) :=
  e_cb (cr_any hc) lAny hm (by decide +kernel) ha hg (by decide) (by decide) he (by rfl)
/-! isinstance -/
def tyN : D → Option String
  | .non => some "NoneType"
  | .bl _ => some "bool"
  | .int _ => some "int"
  | .str _ => some "str"
  | .tup _ => some "tuple"
  | .lst _ => some "list"
  | _ => none
theorem vw_ty {K : Fg} {h : GH} {H : Hp} {v : V} {d : D} {n : String} (re : Rel K h H) (k : Dv K h H v d) (e : tyN (vw h d) = some n) : TyX K H v (.type n) := by
  cases z : vw h d with
  | non => rw [z] at e; cases e; rw [vw_non k z]; exact .base .non
  | bl b => rw [z] at e; cases e; rw [vw_bl k z]; exact .base (.bl _)
  | int b => rw [z] at e; cases e; rw [vw_int k z]; exact .base (.int _)
  | str b => rw [z] at e; cases e; rw [vw_str k z]; exact .base (.str _)
  | tup b =>
    rw [z] at e; cases e
    obtain ⟨q, ys, e1, h1, rs⟩ := vw_tup k z
    rw [e1]
    rcases h1 with ⟨_, h1 | ⟨o, h1⟩⟩ | ⟨o, _, _, h1, h2, _⟩
    · exact .base (.tup h1)
    · exact .fTuple h1
    · exact .kTuple h1 h2
  | lst b =>
    rw [z] at e; cases e
    obtain ⟨q, ys, e1, h1, rs⟩ := vw_lst re k z
    rw [e1]
    exact .base (.lst h1)
  | ref a => rw [z] at e; cases e
  | ty a => rw [z] at e; cases e
  | fro a => rw [z] at e; cases e
/-- isinstance(x, T), T a built-in class -/
def RIsi : RC2 := fun h ds c => ∃ d n t r, ds = [d, .ty n] ∧ tyN (vw h d) = some t ∧ kitB t n = some r ∧ c = .bl r
theorem lIsi {K : Fg} : CLL K (rIsi K) RIsi := by
  intro vs H h ds c Q re dvx hr k
  obtain ⟨d, n, t, r, rfl, et, ek, rfl⟩ := hr
  obtain ⟨v, v', rfl, dv, dw⟩ := dvs2 dvx
  cases dw
  exact ⟨v, _, _, _, r, rfl, .ty n, vw_ty re dv et, kit_ty ek, k _ H (Step.refl h H) re (.bl _)⟩
theorem e_isi (hm : X.mg "isinstance" = none) (ha : PA X [a, b] (gA X.K An gas)) (hg : Gl X "isinstance" := by rfl) (he : starEach [a, b] X.env = (false, eval a X.env) :: starEach [b] X.env := by rfl) (hpl : (backTo pos (starEach [b] X.env)).any (·.1) = false := by rfl) : PE X (.Call (.Name "isinstance" p) [a, b] [] pos) (gE X.K An (gCB RIsi gas)) :=
  e_cb call_isi lIsi hm (by decide +kernel) ha hg (by decide) (by decide) he hpl
theorem e_ty {x : Str} {n : String} (hm : X.mg x = none) (hv : bootBuiltins x = some (.type n)) (hg : Gl X x := by rfl) (hn : x ≠ "__name__" := by decide) (hd : (x == ("__debug__" : Str)) = false := by decide) : PE X (.Name x pos) (gE X.K An (gC (.ty n))) :=
  e_bltn hm hv (v := .ty n) rfl (fun _ _ => .ty n) hg hn hd
/-- isinstance(x, (T1, T2)) -/
def RIsi2 (n m : String) : GH → D → D → Prop := fun h d c => ∃ t r1 r2, tyN (vw h d) = some t ∧ kitB t n = some r1 ∧ kitB t m = some r2 ∧ c = .bl (r1 || r2)
theorem e_isi2 {x y : Str} {n m : String} {k : Nat} {p1 p2 p3 : Pos} (hm : X.mg "isinstance" = none) (hx : X.mg x = none) (hy : X.mg y = none) (vx : bootBuiltins x = some (.type n)) (vy : bootBuiltins y = some (.type m)) (ha : PE X a (gE X.K An ga)) (hg : Gl X "isinstance" := by rfl) (gx : Gl X x := by rfl) (gy : Gl X y := by rfl)
    (h1 : x ≠ "__name__" := by decide) (h2 : y ≠ "__name__" := by decide) (d1 : (x == ("__debug__" : Str)) = false := by decide) (d2 : (y == ("__debug__" : Str)) = false := by decide)
    (he : starEach [a, .Tuple [.Name x p1, .Name y p2] k p3] X.env = (false, eval a X.env) :: starEach [.Tuple [.Name x p1, .Name y p2] k p3] X.env := by rfl) (hpl : (backTo pos (starEach [.Tuple [.Name x p1, .Name y p2] k p3] X.env)).any (·.1) = false := by rfl) :
    PE X (.Call (.Name "isinstance" p) [a, .Tuple [.Name x p1, .Name y p2] k p3] [] pos) (gE X.K An (gUn (RIsi2 n m) ga)) :=
  (pe_callB call_isiT hg hm (by decide +kernel) (pa_cons ha (pa_cons (pe_tup (pa_cons (pe_bltn (v := .ty n) gx hx vx rfl h1 d1) (pa_cons (pe_bltn (v := .ty m) gy hy vy rfl h2 d2) pa_nil))) pa_nil) he) (by decide) (by decide) he hpl).imp fun σ H Q ⟨s, h, P, re, l, g, kk⟩ => by
    refine ⟨s, h, _, re, l, g, fun v H1 d h1 s1 re1 dv ⟨c, ⟨t, r1, r2, et, e1, e2, ec⟩, pp⟩ => ?_⟩
    subst ec
    refine ⟨by show 2 ≤ sizeLine; decide, fun tp n => ?_⟩
    refine ⟨v, tp, _, _, _, (r1 || r2), rfl, upd_same, .cons (.ty _) (.cons (.ty _) .nil), vw_ty (re1.new n) (dv.mono (Step.new n)) et, ?_, kk _ _ _ h1 (s1.trans (Step.new n)) (re1.new n) (.bl _) pp⟩
    refine kitAny_cons (kit_ty e1) (fun z => ?_) (fun z => by rw [z]; rfl)
    subst z
    refine kitAny_cons (kit_ty e2) (fun z => ?_) (fun z => by rw [z]; rfl)
    subst z
    exact kitAny_nil
end
end Gh

namespace Gh
open PySem L2
section
variable {X : Cx} {An : AN} {a b e : Expr} {es : List Expr} {ga gb : gTE} {gas : gTA} {gt : gTT} {pos p : Pos} {st : Stmt} {sts : List Stmt} {g g1 g2 : gTS}
/-! ### blocks, simple statements -/
def sNext : gTS := fun N s h => N.nx s h
def sSeq (g1 g2 : gTS) : gTS := fun N s h => g1 { N with nx := g2 N } s h
theorem b_nil : PSs X [] (gS X.K An sNext) := pss_nil.imp fun De σ H ⟨s, h, N, re, l, g, m⟩ => m.nx σ H s h (Step.refl h H) re l g
theorem b_cons (h1 : PS X st (gS X.K An g1)) (h2 : PSs X sts (gS X.K An g2)) : PSs X (st :: sts) (gS X.K An (sSeq g1 g2)) := (pss_cons h1 h2).imp fun De σ H ⟨s, h, N, re, l, g, m⟩ => by
  refine ⟨s, h, _, re, l, g, fun σ' H' s' h' a re' l' q => ?_, m.rt, m.bk, m.ct⟩
  exact ⟨s', h', N, re', l', q, m.after a⟩
theorem b_one (h1 : PS X st (gS X.K An g)) : PSs X [st] (gS X.K An g) := pss_one h1
def sSet (i : Nat) (ga : gTE) : gTS := fun N s h => ga s h fun d h1 => N.nx (s.set i (some d)) h1
theorem set_of {K : Fg} {An : AN} {i : Nat} (De : Ends) (σ : St) (H : Hp) (q : gS K An (sSet i ga) De σ H) : tAsg (gE K An ga) (gName i) De σ H := by
  obtain ⟨s, h, N, re, l, g, m⟩ := q
  refine ⟨s, h, _, re, l, g, fun v H1 d h1 s1 re1 dv p => ?_⟩
  exact m.nx _ H1 _ h1 s1 re1 ((l.mono s1).set dv) p
theorem s_set {i : Nat} {x : Str} {pos' : Pos} (hN : X.N.Nodup) (he : PE X e (gE X.K An ga)) (hi : X.N[i]? = some x := by rfl) (hx : Loc X.env.scope x := by first | exact Or.inl rfl | exact Or.inr rfl) (hs : swapsWith e (some (.Name x pos')) pos.line X.env = pure false := by rfl)
    (hf : X.fn x = true ∨ X.env.scope.names.lookup x = some .local := by first | exact .inl rfl | exact .inr rfl) : PS X (.Assign [.Name x pos'] e pos) (gS X.K An (sSet i ga)) := (ps_set hN hi hx he hs hf).imp set_of
/-- x = a new list, which x owns -/
def sOwn (i : Nat) (ga : gTA) : gTS := fun N s h => ga s h fun ds h1 => ∀ p, h1 p = none → N.nx (s.set i (some (.ref p))) (put h1 p (.lst ds))
theorem own_of {K : Fg} {An : AN} {i : Nat} (De : Ends) (σ : St) (H : Hp) (q : gS K An (sOwn i gas) De σ H) : tAsg (gF K An gas) (gName i) De σ H := by
  obtain ⟨s, h, N, re, l, g, m⟩ := q
  refine ⟨s, h, _, re, l, g, fun t ds H1 h1 n s1 re1 p => ?_⟩
  exact m.nx _ H1 _ _ s1 re1 ((l.mono s1).set (.ref t)) (p t n)
theorem s_own {i : Nat} {x : Str} {pos' : Pos} (hN : X.N.Nodup) (he : PE X e (gF X.K An gas)) (hi : X.N[i]? = some x := by rfl) (hx : Loc X.env.scope x := by first | exact Or.inl rfl | exact Or.inr rfl) (hs : swapsWith e (some (.Name x pos')) pos.line X.env = pure false := by rfl)
    (hf : X.fn x = true ∨ X.env.scope.names.lookup x = some .local := by first | exact .inl rfl | exact .inr rfl) : PS X (.Assign [.Name x pos'] e pos) (gS X.K An (sOwn i gas)) := (ps_set hN hi hx he hs hf).imp own_of
/-- return; an owned list may be let go -/
def sRet (ga : gTE) : gTS := fun N s h => ga s h fun d h1 => N.rt d h1 ∨ ∃ p ds, d = .ref p ∧ h1 p = some (.lst ds) ∧ N.rt (.lst ds) (del h1 p)
theorem s_ret (he : PE X e (gE X.K An ga)) : PS X (.Return (some e) pos) (gS X.K An (sRet ga)) := (ps_ret he).imp fun De σ H ⟨s, h, N, re, l, g, m⟩ => by
  refine ⟨s, h, _, re, l, g, fun v H1 d h1 s1 re1 dv pp => ?_⟩
  rcases pp with pp | ⟨q, ds, rfl, e, pp⟩
  · exact m.rt v H1 d h1 s1 re1 dv pp
  · cases dv
    exact m.rt _ H1 _ _ (s1.trans Step.del) re1.del (re1.letgo e) pp
def sIf (gt : gTT) (g1 g2 : gTS) : gTS := fun N s h => gt s h fun b h1 => if b = true then g1 N s h1 else g2 N s h1
theorem s_if {c : Expr} {as bs : List Stmt} (hc : PT X c (gT X.K An gt)) (ha : PSs X as (gS X.K An g1)) (hb : PSs X bs (gS X.K An g2)) : PS X (.If c as bs pos) (gS X.K An (sIf gt g1 g2)) := (ps_if hc ha hb).imp fun De σ H ⟨s, h, N, re, l, g, m⟩ => by
  refine ⟨s, h, _, re, l, g, fun b H1 h1 s1 re1 p => ?_⟩
  cases b with
  | true =>
    rw [if_pos rfl] at p
    rw [if_pos rfl]
    exact ⟨s, h1, N, re1, l.mono s1, p, m.after s1⟩
  | false =>
    rw [if_neg Bool.false_ne_true] at p
    rw [if_neg Bool.false_ne_true]
    exact ⟨s, h1, N, re1, l.mono s1, p, m.after s1⟩
def sDrop (ga : gTE) : gTS := fun N s h => ga s h fun _ h1 => N.nx s h1
theorem s_expr (he : PE X e (gE X.K An ga)) (hs : swapsWith e none pos.line X.env = pure false := by rfl) : PS X (.Expr e pos) (gS X.K An (sDrop ga)) := (ps_expr he hs).imp fun De σ H ⟨s, h, N, re, l, g, m⟩ =>
  ⟨s, h, _, re, l, g, fun v H1 d h1 s1 re1 dv p => m.nx _ H1 _ h1 s1 re1 (l.mono s1) p⟩
def sNever : gTS := fun _ _ _ => False
theorem s_never : PS X st (gS X.K An sNever) := ps_never.imp fun De σ H ⟨s, h, N, re, l, g, m⟩ => g
theorem b_never : PSs X sts (gS X.K An sNever) := pss_never.imp fun De σ H ⟨s, h, N, re, l, g, m⟩ => g
theorem s_pass : PS X (.Pass pos) (gS X.K An sNext) := ps_pass.imp fun De σ H ⟨s, h, N, re, l, g, m⟩ => m.nx σ H s h (Step.refl h H) re l g
def sCont : gTS := fun N s h => N.ct s h
theorem s_cont : PS X (.Continue pos) (gS X.K An sCont) := ps_continue.imp fun De σ H ⟨s, h, N, re, l, g, m⟩ => m.ct σ H s h (Step.refl h H) re l g
/-- a, b = x, y -/
def sPar (i j : Nat) (ga : gTA) : gTS := fun N s h => ga s h fun ds h1 => ∃ d e, ds = [d, e] ∧ N.nx ((s.set i (some d)).set j (some e)) h1
theorem s_par {i j : Nat} {x y : Str} {px py pt : Pos} {kt k2 pt2} (hc : X.calm = true) (hN : X.N.Nodup) (hi : X.N[i]? = some x) (hj : X.N[j]? = some y) (hij : i ≠ j)
    (hx : X.env.scope.names.lookup x = some .local) (hy : X.env.scope.names.lookup y = some .local) (ha : PA X [a, b] (gA X.K An gas))
    (hw : swappedStores [.Tuple [.Name x px, .Name y py] kt pt] (.Tuple [a, b] k2 pt2) X.env = pure (some [x, y]))
    (hs : swapsWithSole [.Tuple [.Name x px, .Name y py] kt pt] (.Tuple [a, b] k2 pt2) pos.line X.env = pure false := by rfl) :
    PS X (.Assign [.Tuple [.Name x px, .Name y py] kt pt] (.Tuple [a, b] k2 pt2) pos) (gS X.K An (sPar i j gas)) := (ps_par hc hN hi hj hij hx hy ha hw hs).imp fun De σ H ⟨s, h, N, re, l, g, m⟩ => by
  refine ⟨s, h, _, re, l, g, fun vs H1 ds h1 s1 re1 dv ⟨d, e, ed, p⟩ => ?_⟩
  subst ed
  obtain ⟨v, v', rfl, d1, d2⟩ := dvs2 dv
  exact ⟨v, v', rfl, m.nx _ H1 _ h1 s1 re1 (((l.mono s1).set d1).set d2) p⟩
/-! ### targets -/
abbrev gTG := D → GS → GH → (GS → GH → Prop) → Prop
def gG (K : Fg) (An : AN) (g : gTG) : TG := fun v σ H Q => ∃ d s h P, Rel K h H ∧ Sl K An h H σ s ∧ Dv K h H v d ∧ g d s h P ∧ ∀ σ' H' s' h', Step h H h' H' → Rel K h' H' → Sl K An h' H' σ' s' → P s' h' → Q σ' H'
theorem _root_.L2.PG.imp {t t' : TG} (h : PG X e t) (k : ∀ v σ H Q, t' v σ H Q → t v σ H Q) : PG X e t' := ⟨fun pins s σ H v u Q I r q => h.run pins s σ H v u Q I r (k v σ H Q q)⟩
def tgName (i : Nat) : gTG := fun d s h P => P (s.set i (some d)) h
theorem g_name (i : Nat) {x : Str} (hN : X.N.Nodup) (hi : X.N[i]? = some x := by rfl) (hx : Loc X.env.scope x := by first | exact Or.inl rfl | exact Or.inr rfl) (hf : X.fn x = true ∨ X.env.scope.names.lookup x = some .local := by first | exact .inl rfl | exact .inr rfl) : PG X (.Name x pos) (gG X.K An (tgName i)) :=
  (pg_name (i := i) hN hi hx hf).imp fun v σ H Q ⟨d, s, h, P, re, l, dv, g, k⟩ => k _ H _ h (Step.refl h H) re (l.set dv) g
abbrev gTGs := List D → GS → GH → (GS → GH → Prop) → Prop
def gGs (K : Fg) (An : AN) (g : gTGs) : TGs := fun vs σ H Q => ∃ ds s h P, Rel K h H ∧ Sl K An h H σ s ∧ Dvs K h H vs ds ∧ g ds s h P ∧ ∀ σ' H' s' h', Step h H h' H' → Rel K h' H' → Sl K An h' H' σ' s' → P s' h' → Q σ' H'
def tgNil : gTGs := fun ds s h P => ds = [] ∧ P s h
def tgCons (t : gTG) (u : gTGs) : gTGs := fun ds s h P => ∃ d r, ds = d :: r ∧ t d s h fun s' h' => u r s' h' P
theorem _root_.L2.PGs.imp {t t' : TGs} (h : PGs X es t) (k : ∀ v σ H Q, t' v σ H Q → t v σ H Q) : PGs X es t' := ⟨fun pins s σ H v u Q I r q => h.run pins s σ H v u Q I r (k v σ H Q q)⟩
theorem gs_nil : PGs X [] (gGs X.K An tgNil) := pgs_nil.imp fun v σ H Q ⟨d, s, h, P, re, l, dv, ⟨e, g⟩, k⟩ => by
  subst e
  cases dv
  exact ⟨rfl, k _ H _ h (Step.refl h H) re l g⟩
theorem gs_cons {t : gTG} {u : gTGs} (h1 : PG X e (gG X.K An t)) (h2 : PGs X es (gGs X.K An u)) (hs : (assignEach (e :: es) X.env).map (·.2) = assign e X.env :: (assignEach es X.env).map (·.2) := by rfl) : PGs X (e :: es) (gGs X.K An (tgCons t u)) := (pgs_cons h1 h2 hs).imp fun v σ H Q ⟨d, s, h, P, re, l, dv, ⟨d0, r0, e, g⟩, k⟩ => by
  subst e
  cases dv with
  | cons a r =>
    refine ⟨_, _, rfl, d0, s, h, _, re, l, a, g, fun σ' H' s' h' st re' l' q => ?_⟩
    exact ⟨r0, s', h', P, re', l', r.mono st, q, fun σ2 H2 s2 h2 st2 re2 l2 p => k σ2 H2 s2 h2 (st.trans st2) re2 l2 p⟩
def tgTup (n : Nat) (t : gTGs) : gTG := fun d s h P => ∃ ds, d = .tup ds ∧ ds.length = n ∧ t ds s h P
theorem g_tup {t : gTGs} {k n : Nat} (hc : X.calm = true) (h : PGs X es (gGs X.K An t)) (hn : (assignEach es X.env).length = n := by rfl) (hst : (assignEach es X.env).findIdx? (·.1) = none := by rfl) : PG X (.Tuple es k pos) (gG X.K An (tgTup n t)) := (pg_tup hc h hn hst).imp fun v σ H Q ⟨d, s, h, P, re, l, dv, ⟨ds, e, hl, g⟩, k⟩ => by
  subst e
  cases dv with
  | tup t rs => exact ⟨_, _, rfl, t.sq, by rw [rs.length]; exact hl, ds, s, h, P, re, l, rs, g, k⟩
/-- target = value -/
def sAsg (ga : gTE) (t : gTG) : gTS := fun N s h => ga s h fun d h1 => t d s h1 N.nx
theorem s_asg {tg : Expr} {t : gTG} (he : PE X e (gE X.K An ga)) (hg : PG X tg (gG X.K An t)) (hs : swapsWithSole [tg] e pos.line X.env = pure false := by rfl) (hw : swappedStores [tg] e X.env = pure none := by rfl)
    (h1 : (assignEach [tg] X.env).map (·.2) = [assign tg X.env] := by rfl) : PS X (.Assign [tg] e pos) (gS X.K An (sAsg ga t)) := (ps_asg he hg hs hw h1).imp fun De σ H ⟨s, h, N, re, l, g, m⟩ => by
  refine ⟨s, h, _, re, l, g, fun v H1 d h1 s1 re1 dv p => ?_⟩
  exact ⟨d, s, h1, N.nx, re1, l.mono s1, dv, p, fun σ' H' s' h' st => m.nx σ' H' s' h' (s1.trans st)⟩
/-! ### while -/
def sWhile (gt : gTT) (gb : gTS) : gTS := fun N s h => ∃ W : Nat → GS → GH → Prop, (∃ m, W m s h) ∧ ∀ m s h, W m s h →
  gt s h fun b h1 => if b = true then gb { nx := fun s' h' => ∃ m', m' < m ∧ W m' s' h', ct := fun s' h' => ∃ m', m' < m ∧ W m' s' h', bk := N.nx, rt := N.rt } s h1 else N.nx s h1
theorem s_while {c : Expr} {body : List Stmt} {gb : gTS} (hp : PassesOwn (model X.prog X.w) X.A X.env X.xe) (hc : PT X c (gT X.K An gt)) (hb : PSs X body (gS X.K An gb)) : PS X (.While c body [] pos) (gS X.K An (sWhile gt gb)) := (ps_while hp hc hb).imp fun De σ H ⟨s, h, N, re, l, g, m⟩ => by
  obtain ⟨W, ⟨m0, w0⟩, turn⟩ := g
  refine ⟨fun n σ1 H1 => ∃ s1 h1, Step h H h1 H1 ∧ Rel X.K h1 H1 ∧ Sl X.K An h1 H1 σ1 s1 ∧ W n s1 h1, ⟨m0, s, h, Step.refl h H, re, l, w0⟩, fun n σ1 H1 ⟨s1, h1, st1, re1, l1, w1⟩ => ?_⟩
  refine ⟨s1, h1, _, re1, l1, turn n s1 h1 w1, fun b H2 h2 st2 re2 p => ?_⟩
  cases b with
  | true =>
    rw [if_pos rfl] at p
    rw [if_pos rfl]
    refine ⟨fun σ' H' => ∃ m', m' < n ∧ ∃ s1 h1, Step h H h1 H' ∧ Rel X.K h1 H' ∧ Sl X.K An h1 H' σ' s1 ∧ W m' s1 h1, fun _ _ q => q, ?_⟩
    refine ⟨s1, h2, _, re2, l1.mono st2, p, fun σ3 H3 s3 h3 st3 re3 l3 ⟨m', hm, w3⟩ => ?_, fun v H3 d h3 st3 => m.rt v H3 d h3 ((st1.trans st2).trans st3), fun σ3 H3 s3 h3 st3 => m.nx σ3 H3 s3 h3 ((st1.trans st2).trans st3), fun σ3 H3 s3 h3 st3 re3 l3 ⟨m', hm, w3⟩ => ?_⟩
    · exact ⟨m', hm, s3, h3, (st1.trans st2).trans st3, re3, l3, w3⟩
    · exact ⟨m', hm, s3, h3, (st1.trans st2).trans st3, re3, l3, w3⟩
  | false =>
    rw [if_neg Bool.false_ne_true] at p
    rw [if_neg Bool.false_ne_true]
    exact m.nx σ1 H2 s1 h2 (st1.trans st2) re2 (l1.mono st2) p
end
end Gh

namespace Gh
open PySem L2
/-! ### what is walked -/
def Walk (K : Fg) (J : It) (h0 : GH) (H0 : Hp) (ds : List D) : Prop := ∀ h H, Step h0 H0 h H → Rel K h H →
  (∀ (i : Nat) (d : D), ds[i]? = some d → J.go i H ∧ ∀ x H', J.yld i H x H' → Step h H h H' ∧ Rel K h H' ∧ Dv K h H' x d) ∧ (∀ i : Nat, ds.length ≤ i → J.stop i H)
def gI (K : Fg) (An : AN) (g : gTA) : TI := fun σ H R => ∃ s h P, Rel K h H ∧ Sl K An h H σ s ∧ g s h P ∧ ∀ J ds H' h', Step h H h' H' → Rel K h' H' → Walk K J h' H' ds → P ds h' → R J H'
section
variable {X : Cx} {An : AN} {a b e tg iter : Expr} {es : List Expr} {ga gb : gTE} {gas : gTA} {gt : gTT} {pos p : Pos} {st : Stmt} {sts : List Stmt} {g g1 g2 : gTS}
theorem _root_.L2.PI.imp {t t' : TI} (h : PI X tg e t) (k : ∀ σ H R, t' σ H R → t σ H R) : PI X tg e t' := ⟨fun pins s σ H R I q => h.run pins s σ H R I (k σ H R q)⟩
theorem walk_list {K : Fg} {h : GH} {H : Hp} {q : Addr} {xs : List V} {ds : List D} (n : h q = none) (e : H q = some (.lst xs)) (rs : Dvs K h H xs ds) : Walk K (Itl K q) h H ds := by
  intro h1 H1 st re
  have e1 := st.kp n e
  have rs1 := rs.mono st
  refine ⟨fun i d hd => ?_, fun i hi => ⟨xs, .inl (.inl e1), by rw [rs.length]; exact hi⟩⟩
  obtain ⟨v, hv, dv⟩ := rs1.get hd
  refine ⟨⟨xs, v, .inl (.inl e1), hv⟩, fun x H' ⟨eH, hx⟩ => ?_⟩
  subst eH
  have := hx xs (.inl (.inl e1))
  rw [hv] at this
  cases this
  exact ⟨Step.refl _ _, re, dv⟩
theorem walk_tup {K : Fg} {h : GH} {H : Hp} {q : Addr} {xs : List V} {ds : List D} (t : TpF K h H q xs) (rs : Dvs K h H xs ds) : Walk K (Itt K q) h H ds := by
  intro h1 H1 st re
  have e1 := (t.mono st).sq
  have rs1 := rs.mono st
  refine ⟨fun i d hd => ?_, fun i hi => ⟨xs, e1, by rw [rs.length]; exact hi⟩⟩
  obtain ⟨v, hv, dv⟩ := rs1.get hd
  refine ⟨⟨xs, v, e1, hv⟩, fun x H' ⟨eH, hx⟩ => ?_⟩
  subst eH
  have := hx xs e1
  rw [hv] at this
  cases this
  exact ⟨Step.refl _ _, re, dv⟩
def rangeD (lo : Int) (n : Nat) : List D := (List.range n).map fun i => .int (lo + (i : Nat))
theorem rangeD_length (lo : Int) (n : Nat) : (rangeD lo n).length = n := by unfold rangeD; simp
theorem rangeD_get {lo : Int} {n i : Nat} {d : D} (e : (rangeD lo n)[i]? = some d) : i < n ∧ d = .int (lo + i) := by
  have hl : i < n := by
    have := (List.getElem?_eq_some_iff.mp e).1
    rwa [rangeD_length] at this
  refine ⟨hl, ?_⟩
  unfold rangeD at e
  rw [List.getElem?_map, List.getElem?_range hl] at e
  exact (Option.some.inj e).symm
theorem walk_range {K : Fg} {h : GH} {H : Hp} {lo : Int} {n : Nat} : Walk K (Itr lo n) h H (rangeD lo n) := by
  intro h1 H1 st re
  refine ⟨fun i d hd => ?_, fun i hi => by rw [rangeD_length] at hi; exact hi⟩
  obtain ⟨hi, rfl⟩ := rangeD_get hd
  refine ⟨hi, fun x H' ⟨eH, hx⟩ => ?_⟩
  subst eH hx
  exact ⟨Step.refl _ _, re, .int _⟩
def strD (x : Str) : List D := x.cps.toList.map fun c => .str ⟨#[c]⟩
theorem walk_str {K : Fg} {h : GH} {H : Hp} {x : Str} : Walk K (Its x) h H (strD x) := by
  intro h1 H1 st re
  have hl : (strD x).length = x.cps.size := by unfold strD; simp
  refine ⟨fun i d hd => ?_, fun i hi => by rw [hl] at hi; exact hi⟩
  unfold strD at hd
  rw [List.getElem?_map] at hd
  cases q : x.cps.toList[i]? with
  | none => rw [q] at hd; cases hd
  | some c =>
    rw [q] at hd
    cases hd
    have hi : i < x.cps.size := by
      have := (List.getElem?_eq_some_iff.mp q).1
      simpa using this
    refine ⟨hi, fun y H' ⟨eH, c', hc, hy⟩ => ?_⟩
    subst eH hy
    rw [← Array.getElem?_toList, q] at hc
    cases hc
    exact ⟨Step.refl _ _, re, .str _⟩
/-- for .. in e: a list, a tuple or a text -/
def iSeq (ga : gTE) : gTA := fun s h P => ga s h fun d h1 => match d with
  | .lst ds => P ds h1
  | .tup ds => P ds h1
  | .str x => P (strD x) h1
  | _ => False
def iAll (K : Fg) (tl : TE) : TI := fun σ H R => tl σ H fun x H1 => (∃ a, x = .ref a ∧ (∃ xs, SqL K H1 a xs) ∧ R (Itl K a) H1) ∨ (∃ a, x = .ref a ∧ (∃ xs, SqT K H1 a xs) ∧ R (Itt K a) H1) ∨ ∃ y, x = .str y ∧ R (Its y) H1
theorem pi_all {l : Expr} {tl : TE} (hl : PE X l tl) : PI X tg l (iAll X.K tl) := by
  refine ⟨fun pins s σ H R I h => ?_⟩
  refine thn (hl.run pins s σ H _ I h) fun v s1 ⟨x, H1, I1, r1, q1⟩ => ?_
  rcases q1 with ⟨q, e, ⟨xs, hq⟩, q1⟩ | ⟨q, e, ⟨xs, hq⟩, q1⟩ | ⟨y, e, q1⟩
  · subst e
    cases r1
    obtain ⟨its, rv, p, hz⟩ := I1.list hq
    refine wpAny_pyIter_list p.isList ?_
    refine ⟨s1.heap.objs.size, [s1.heap.objs.size], _, _, H1, rfl, I1.kept (t' := s1.toks) fun b o e => Heap.get?_push_of_some _ e, turn_list q _, ⟨_, Heap.get?_push_size _ rfl, rfl, rfl⟩, fun b hb => ?_, q1⟩
    have e : b = s1.heap.objs.size := by simpa using hb
    subst e
    exact I1.fpOk (Nat.le_refl _) (I1.hok.fresh (Nat.le_refl _))
  · subst e
    cases r1
    obtain ⟨its, rv, p, hz⟩ := I1.tuple hq
    refine wpAny_pyIter_tuple (show s1.heap.IsTuple q its.toArray from p) ?_
    refine ⟨s1.heap.objs.size, [s1.heap.objs.size], _, _, H1, rfl, I1.kept (t' := s1.toks) fun b o e => Heap.get?_push_of_some _ e, turn_tuple q _, ⟨_, Heap.get?_push_size _ rfl, rfl, rfl⟩, fun b hb => ?_, q1⟩
    have e : b = s1.heap.objs.size := by simpa using hb
    subst e
    exact I1.fpOk (Nat.le_refl _) (I1.hok.fresh (Nat.le_refl _))
  · subst e
    obtain ⟨t, rfl⟩ := r1
    cases ha : y.cps.all (· < 128)
    · exact wpAny_pyIter_wide ha (pi_one (tk := s1.toks) I1 _ (turn_str _ y t "str_iterator" (.inr rfl)) ⟨_, Heap.get?_push_size _ rfl, rfl, rfl⟩ q1)
    · exact wpAny_pyIter_ascii ha (pi_one (tk := s1.toks) I1 _ (turn_str _ y t "str_ascii_iterator" (.inl rfl)) ⟨_, Heap.get?_push_size _ rfl, rfl, rfl⟩ q1)
theorem i_seq (ha : PE X e (gE X.K An ga)) : PI X tg e (gI X.K An (iSeq ga)) := (pi_all ha).imp fun σ H R ⟨s, h, P, re, l, g, k⟩ => by
  refine ⟨s, h, _, re, l, g, fun v H1 d h1 s1 re1 dv p => ?_⟩
  cases dv with
  | lst n q rs => exact .inl ⟨_, rfl, ⟨_, .inl (.inl q)⟩, k _ _ H1 h1 s1 re1 (walk_list n q rs) p⟩
  | tup t rs => exact .inr (.inl ⟨_, rfl, ⟨_, t.sq⟩, k _ _ H1 h1 s1 re1 (walk_tup t rs) p⟩)
  | str x => exact .inr (.inr ⟨x, rfl, k _ _ H1 h1 s1 re1 walk_str p⟩)
  | _ => exact p.elim
def iRg1 (gas : gTA) : gTA := fun s h P => gas s h fun ds h1 => ∃ j : Int, ds = [.int j] ∧ (-(2 ^ 62) ≤ j ∧ j < 2 ^ 62) ∧ P (rangeD 0 j.toNat) h1
def iRg2 (gas : gTA) : gTA := fun s h P => gas s h fun ds h1 => ∃ i j : Int, ds = [.int i, .int j] ∧ (-(2 ^ 62) ≤ i ∧ i < 2 ^ 62 ∧ -(2 ^ 62) ≤ j ∧ j < 2 ^ 62) ∧ P (rangeD i (j - i).toNat) h1
theorem i_range1 (hm : X.mg "range" = none) (ha : PA X [a] (gA X.K An gas)) (hg : Gl X "range" := by rfl) (hs : starEach [a] X.env = [(false, eval a X.env)] := by rfl) : PI X tg (.Call (.Name "range" p) [a] [] pos) (gI X.K An (iRg1 gas)) := (pi_range1 hg hm ha hs).imp fun σ H R ⟨s, h, P, re, l, g, k⟩ => by
  refine ⟨s, h, _, re, l, g, fun vs H1 ds h1 s1 re1 dvx ⟨j, e, ⟨b1, b2⟩, p⟩ => ?_⟩
  subst e
  obtain ⟨v, rfl, dv⟩ := dvs1 dvx
  cases dv
  exact ⟨j, rfl, b1, b2, k _ _ H1 h1 s1 re1 walk_range p⟩
theorem i_range2 (hm : X.mg "range" = none) (ha : PA X [a, b] (gA X.K An gas)) (hg : Gl X "range" := by rfl) (hs : starEach [a, b] X.env = [(false, eval a X.env), (false, eval b X.env)] := by rfl) (hs2 : starEach [b] X.env = [(false, eval b X.env)] := by rfl) : PI X tg (.Call (.Name "range" p) [a, b] [] pos) (gI X.K An (iRg2 gas)) := (pi_range2 hg hm ha hs hs2).imp fun σ H R ⟨s, h, P, re, l, g, k⟩ => by
  refine ⟨s, h, _, re, l, g, fun vs H1 ds h1 s1 re1 dvx ⟨i, j, e, bb, p⟩ => ?_⟩
  subst e
  obtain ⟨v, v', rfl, dv, dw⟩ := dvs2 dvx
  cases dv
  cases dw
  exact ⟨i, j, rfl, bb, k _ _ H1 h1 s1 re1 walk_range p⟩
/-! ### for -/
def gLoop (gt : gTG) (gb : gTS) (N : GEnds) : List D → GS → GH → Prop
  | [], s, h => N.nx s h
  | d :: r, s, h => gt d s h fun s1 h1 => gb { nx := gLoop gt gb N r, ct := gLoop gt gb N r, bk := N.nx, rt := N.rt } s1 h1
def sFor (gi : gTA) (gt : gTG) (gb : gTS) : gTS := fun N s h => gi s h fun ds h1 => gLoop gt gb N ds s h1
theorem s_for {gi : gTA} {gtg : gTG} {gb : gTS} {body : List Stmt} (hp : PassesOwn (model X.prog X.w) X.A X.env X.xe) (hc : X.calm = true) (hi : PI X tg iter (gI X.K An gi)) (hg : PG X tg (gG X.K An gtg)) (hb : PSs X body (gS X.K An gb))
    (hs : ∀ x, foldedSetIterable iter X.env x = pure x := by intro _; rfl) : PS X (.For tg iter body [] pos) (gS X.K An (sFor gi gtg gb)) := (ps_for hp hc hi hg hb hs).imp fun De σ H ⟨s, h, N, re, l, g, m⟩ => by
  refine ⟨s, h, _, re, l, g, fun J ds H1 h1 s1 re1 wk p => ?_⟩
  refine ⟨fun i n σ2 H2 => n = ds.length - i ∧ ∃ s2 h2, Step h1 H1 h2 H2 ∧ Rel X.K h2 H2 ∧ Sl X.K An h2 H2 σ2 s2 ∧ gLoop gtg gb N (ds.drop i) s2 h2, ⟨ds.length, by simp, s, h1, Step.refl _ _, re1, l.mono s1, by rw [List.drop_zero]; exact p⟩, fun i n σ2 H2 ⟨en, s2, h2, st2, re2, l2, w2⟩ => ?_⟩
  obtain ⟨w_go, w_stop⟩ := wk h2 H2 st2 re2
  by_cases hi : i < ds.length
  · refine .inr ?_
    have hd : ds[i]? = some ds[i] := List.getElem?_eq_getElem hi
    rw [List.drop_eq_getElem_cons hi] at w2
    obtain ⟨go, yl⟩ := w_go i _ hd
    refine ⟨go, fun σ' H' => ds.length - (i + 1) < n ∧ ∃ s2 h2, Step h1 H1 h2 H' ∧ Rel X.K h2 H' ∧ Sl X.K An h2 H' σ' s2 ∧ gLoop gtg gb N (ds.drop (i + 1)) s2 h2, fun σ' H' ⟨q1, q2⟩ => ⟨_, q1, rfl, q2⟩, fun x H3 hy => ?_⟩
    obtain ⟨st3, re3, dx⟩ := yl x H3 hy
    refine ⟨ds[i], s2, h2, _, re3, l2.mono st3, dx, w2, fun σ4 H4 s4 h4 st4 re4 l4 q4 => ?_⟩
    have st14 := (st2.trans st3).trans st4
    have st04 := s1.trans st14
    refine ⟨s4, h4, _, re4, l4, q4, fun σ5 H5 s5 h5 st5 re5 l5 q5 => ?_, fun v H5 d h5 st5 => m.rt v H5 d h5 (st04.trans st5), fun σ5 H5 s5 h5 st5 => m.nx σ5 H5 s5 h5 (st04.trans st5), fun σ5 H5 s5 h5 st5 re5 l5 q5 => ?_⟩
    · exact ⟨by omega, s5, h5, st14.trans st5, re5, l5, q5⟩
    · exact ⟨by omega, s5, h5, st14.trans st5, re5, l5, q5⟩
  · refine .inl ⟨w_stop i (by omega), ?_⟩
    rw [List.drop_eq_nil_of_le (by omega)] at w2
    exact m.nx σ2 H2 s2 h2 (s1.trans st2) re2 l2 w2
/-! ### list comprehensions with one name -/
def wipeG (s : GS) : List Nat → GS
  | [] => s
  | v :: vs => (wipeG s vs).set v none
theorem Sl.wipe {K : Fg} {An : AN} {h : GH} {H : Hp} {σ : St} {s : GS} (l : Sl K An h H σ s) : ∀ vs : List Nat, Sl K An h H (L2.wipe σ vs) (wipeG s vs)
  | [] => l
  | v :: vs => by
    unfold L2.wipe wipeG
    exact (Sl.wipe l vs).unset
def gYes : gTT := fun _ h P => P true h
def gComp (gt : gTG) (gc : gTT) (ge : gTE) (s : GS) (p : Addr) (P : List D → GH → Prop) : List D → List D → GH → Prop
  | [], acc, h => P acc (del h p)
  | d :: r, acc, h => gt d s h fun s2 h2 => gc s2 h2 fun b h3 => if b = true then ge s2 h3 fun y h4 => acc.length < sizeLine ∧ h4 p = some (.lst acc) ∧ gComp gt gc ge s p P r (acc ++ [y]) (put h4 p (.lst (acc ++ [y]))) else h3 p = some (.lst acc) ∧ gComp gt gc ge s p P r acc h3
def fLc (gi : gTA) (gt : gTG) (gc : gTT) (ge : gTE) (vs : List Nat) : gTA := fun s h P => gi s h fun ds h1 => ∀ p, h1 p = none → gComp gt gc ge (wipeG s vs) p P ds [] (put h1 p (.lst []))
theorem put_get {h : GH} {p : Addr} {g : GO} (e : h p = some g) : put (del h p) p g = h := by
  funext b
  by_cases z : b = p
  · subst z; rw [put_same, e]
  · rw [put_ne z, del_ne z]
/-- the targets of a comprehension: g sets slots of vs alone -/
def TgOk (K : Fg) (An : AN) (vs : List Nat) (g : TG) (gt : gTG) : Prop := ∀ v σ H d s h (P : GS → GH → Prop) (Q : St → Hp → Prop), Rel K h H → Sl K An h H (L2.wipe σ vs) (wipeG s vs) → Dv K h H v d → gt d (wipeG s vs) h P →
  (∀ σ' H' s' h', L2.wipe σ' vs = L2.wipe σ vs → Step h H h' H' → Rel K h' H' → Sl K An h' H' σ' s' → P s' h' → Q σ' H') → g v (L2.wipe σ vs) H Q
theorem lc_of {K : Fg} {An : AN} {gi : gTA} {tr : TG} {gtg : gTG} {tt : TT} {gc : gTT} {ge : gTE} {vs : List Nat} (hg : TgOk K An vs tr gtg) (hc : ∀ σ H Q, gT K An gc σ H Q → tt σ H Q) (σ : St) (H : Hp) (Q : VK) (q : gF K An (fLc gi gtg gc ge vs) σ H Q) : tLc (gI K An gi) tr tt (gE K An ge) vs σ H Q := by
  obtain ⟨s, h, P, re, l, g, k⟩ := q
  refine ⟨s, h, _, re, l, g, fun J ds H1 h1 s1 re1 wk p t n => ?_⟩
  have n1 := re1.free n
  have s2 : Step h1 H1 (put h1 t (.lst [])) (upd H1 t (.lst [])) := Step.newO n
  have re2 : Rel K (put h1 t (.lst [])) (upd H1 t (.lst [])) := re1.newO n .nil
  have l2 : Sl K An (put h1 t (.lst [])) (upd H1 t (.lst [])) (L2.wipe σ vs) (wipeG s vs) := ((l.mono s1).mono s2).wipe vs
  refine ⟨fun i m H3 => m = ds.length - i ∧ ∃ acc h3, Step (put h1 t (.lst [])) (upd H1 t (.lst [])) h3 H3 ∧ Rel K h3 H3 ∧ h3 t = some (.lst acc) ∧ gComp gtg gc ge (wipeG s vs) t P (ds.drop i) acc h3,
    ⟨ds.length, by simp, [], _, Step.refl _ _, re2, put_same, by rw [List.drop_zero]; exact p t n1⟩, fun i m H3 ⟨em, acc, h3, st3, re3, ho, w3⟩ => ?_⟩
  obtain ⟨w_go, w_stop⟩ := wk h3 H3 (s2.trans st3) re3
  by_cases hi : i < ds.length
  · refine .inr ?_
    have hd : ds[i]? = some ds[i] := List.getElem?_eq_getElem hi
    rw [List.drop_eq_getElem_cons hi] at w3
    obtain ⟨go, yl⟩ := w_go i _ hd
    refine ⟨go, fun H' => ds.length - (i + 1) < m ∧ ∃ acc h3, Step (put h1 t (.lst [])) (upd H1 t (.lst [])) h3 H' ∧ Rel K h3 H' ∧ h3 t = some (.lst acc) ∧ gComp gtg gc ge (wipeG s vs) t P (ds.drop (i + 1)) acc h3, fun H' ⟨q1, q2⟩ => ⟨_, q1, rfl, q2⟩, fun x H4 hy => ?_⟩
    obtain ⟨st4, re4, dx⟩ := yl x H4 hy
    have l4 := l2.mono (st3.trans st4)
    refine hg x σ H4 _ s h3 _ _ re4 l4 dx w3 fun σ5 H5 s5 h5 ew st5 re5 l5 q5 => ⟨ew, ?_⟩
    refine hc σ5 H5 _ ⟨s5, h5, _, re5, l5, q5, fun b H6 h6 st6 re6 q6 => ?_⟩
    have st16 := ((st3.trans st4).trans st5).trans st6
    cases b with
    | true =>
      rw [if_pos rfl] at q6
      refine iteT ?_
      refine ⟨s5, h6, _, re6, l5.mono st6, q6, fun y H7 d h7 st7 re7 dy ⟨hz, ho7, q7⟩ => ?_⟩
      obtain ⟨xs, hx, rs⟩ := re7 t _ ho7
      refine ⟨xs, hx, by rw [rs.length]; exact hz, by omega, acc ++ [d], _, (st16.trans st7).trans (Step.set (g := GO.lst (acc ++ [d])) (by rw [ho7]; simp)), ?_, put_same, q7⟩
      have st8 : Step h7 H7 (put h7 t (GO.lst (acc ++ [d]))) (upd H7 t (.lst (xs ++ [y]))) := Step.set (by rw [ho7]; simp)
      exact re7.put st8 ⟨_, upd_same, (rs.mono st8).append (.cons (dy.mono st8) .nil)⟩
    | false =>
      rw [if_neg Bool.false_ne_true] at q6
      refine iteF ?_
      exact ⟨by omega, acc, h6, st16, re6, q6.1, q6.2⟩
  · refine .inl ⟨w_stop i (by omega), ?_⟩
    rw [List.drop_eq_nil_of_le (by omega)] at w3
    have st := (s1.trans s2).trans st3
    have e := put_get ho
    refine k t acc H3 (del h3 t) del_same ?_ ?_ w3
    · rw [e]; exact st
    · rw [e]; exact re3
theorem wipe_set {σ : St} {i : Nat} {v : Option V} : ∀ {vs : List Nat}, i ∈ vs → L2.wipe ((L2.wipe σ vs).set i v) vs = L2.wipe σ vs := by
  intro vs hi
  have len : ∀ us : List Nat, (L2.wipe σ us).length = σ.length := wipe_length σ
  have get : ∀ (us : List Nat) (τ : St) (j : Nat), (L2.wipe τ us)[j]? = if j < τ.length then (if j ∈ us then some none else τ[j]?) else none := by
    intro us τ j
    induction us with
    | nil =>
      unfold L2.wipe
      by_cases hj : j < τ.length
      · rw [if_pos hj]; simp
      · rw [if_neg hj]; exact List.getElem?_eq_none (by omega)
    | cons u us ih =>
      unfold L2.wipe
      by_cases hj : j < τ.length
      · rw [if_pos hj]
        by_cases hu : u = j
        · subst hu
          rw [List.getElem?_set_self (by rw [wipe_length]; exact hj), if_pos List.mem_cons_self]
        · rw [List.getElem?_set_ne hu, ih, if_pos hj]
          by_cases hm : j ∈ us
          · rw [if_pos hm, if_pos (List.mem_cons_of_mem _ hm)]
          · rw [if_neg hm, if_neg (by simp; exact ⟨fun z => hu z.symm, hm⟩)]
      · rw [if_neg hj]
        exact List.getElem?_eq_none (by rw [List.length_set, wipe_length]; omega)
  apply List.ext_getElem?
  intro j
  rw [get, get, List.length_set, len]
  by_cases hj : j < σ.length
  · rw [if_pos hj, if_pos hj]
    by_cases hm : j ∈ vs
    · rw [if_pos hm, if_pos hm]
    · rw [if_neg hm, if_neg hm, List.getElem?_set_ne (fun z => hm (by rw [← z]; exact hi)), get, if_pos hj, if_neg hm]
  · rw [if_neg hj, if_neg hj]
theorem tgOk_name {K : Fg} {An : AN} {i : Nat} {vs : List Nat} (hi : i ∈ vs) : TgOk K An vs (gName i) (tgName i) := fun v σ H d s h P Q re l dv g k => k _ H _ h (wipe_set hi) (Step.refl h H) re (l.set dv) g
/-- [elt for x in iter] -/
theorem f_lc {elt : Expr} {scope : Scope} {x : Str} {i : Nat} {px : Pos} {gi : gTA} {ge : gTE} (hc : X.calm = true) (hN : X.N.Nodup) (hi : PI X (.Name x px) iter (gI X.K An gi)) (ok : BlkOk X.N X.env.scope scope [(x, i)])
    (hg : ∀ (s : Shared) (H : Hp) (C : Addr) (cl : List (Str × Addr)) (fp : List Addr), PG (X.blk s H scope (compEnvC scope cl C X.env) fp) (.Name x px) (gName i))
    (he : ∀ (s : Shared) (H : Hp) (C : Addr) (cl : List (Str × Addr)) (fp : List Addr), PE (X.blk s H scope (compEnvC scope cl C X.env) fp) elt (gE X.K An ge)) (hs : ∀ x, foldedSetIterable iter X.env x = pure x := by intro _; rfl) :
    PE X (.ListComp elt [⟨.Name x px, iter, [], 0⟩] scope pos) (gF X.K An (fLc gi (tgName i) gYes ge [i])) :=
  (pe_lc (own := [(x, i)]) hc hN hi ok hg (fun _ _ _ _ _ => pts_nil) he hs).imp (lc_of (tgOk_name (by simp)) fun σ H Q ⟨s, h, P, re, l, g, k⟩ => k true H h (Step.refl h H) re g)
/-- [elt for x in iter if t] -/
theorem f_lcIf {elt t : Expr} {scope : Scope} {x : Str} {i : Nat} {px : Pos} {gi : gTA} {ge : gTE} {gc : gTT} (hc : X.calm = true) (hN : X.N.Nodup) (hi : PI X (.Name x px) iter (gI X.K An gi)) (ok : BlkOk X.N X.env.scope scope [(x, i)])
    (hg : ∀ (s : Shared) (H : Hp) (C : Addr) (cl : List (Str × Addr)) (fp : List Addr), PG (X.blk s H scope (compEnvC scope cl C X.env) fp) (.Name x px) (gName i))
    (ht : ∀ (s : Shared) (H : Hp) (C : Addr) (cl : List (Str × Addr)) (fp : List Addr), PT (X.blk s H scope (compEnvC scope cl C X.env) fp) t (gT X.K An gc))
    (he : ∀ (s : Shared) (H : Hp) (C : Addr) (cl : List (Str × Addr)) (fp : List Addr), PE (X.blk s H scope (compEnvC scope cl C X.env) fp) elt (gE X.K An ge)) (hs : ∀ x, foldedSetIterable iter X.env x = pure x := by intro _; rfl) :
    PE X (.ListComp elt [⟨.Name x px, iter, [t], 0⟩] scope pos) (gF X.K An (fLc gi (tgName i) gc ge [i])) :=
  (pe_lc (own := [(x, i)]) hc hN hi ok hg (fun s H C cl fp => pts_one (ht s H C cl fp)) he hs).imp (lc_of (tgOk_name (by simp)) fun _ _ _ q => q)
theorem frz_of {K : Fg} {An : AN} {g : gTA} (σ : St) (H : Hp) (Q : VK) (q : gE K An (gFr g) σ H Q) : gF K An g σ H Q := by
  obtain ⟨s, h, P, re, l, g, k⟩ := q
  refine ⟨s, h, _, re, l, g, fun p ds H' h1 n s1 re1 pp => ?_⟩
  have d := re1.letgo put_same
  have re2 := re1.del (p := p)
  have s2 : Step h H (Gh.del (Gh.put h1 p (GO.lst ds)) p) H' := s1.trans Step.del
  rw [put_del n] at d re2 s2
  exact k _ H' _ h1 s2 re2 d pp
theorem setF_of {K : Fg} {An : AN} {i : Nat} (De : Ends) (σ : St) (H : Hp) (q : gS K An (sSet i (gFr gas)) De σ H) : tAsg (gF K An gas) (gName i) De σ H := frz_of σ H _ (set_of De σ H q)
/-- y = [elt for x in iter], y a local -/
theorem s_lc {elt : Expr} {scope : Scope} {x y : Str} {i j : Nat} {px py spos : Pos} {gi : gTA} {ge : gTE} (hc : X.calm = true) (hN : X.N.Nodup) (hy : X.N[j]? = some y) (hyl : X.env.scope.names.lookup y = some .local)
    (hsw : swapsWith (.ListComp elt [⟨.Name x px, iter, [], 0⟩] scope pos) (some (.Name y py)) spos.line X.env = pure true) (hi : PI X (.Name x px) iter (gI X.K An gi)) (ok : BlkOk X.N X.env.scope scope [(x, i)])
    (hg : ∀ (s : Shared) (H : Hp) (C : Addr) (cl : List (Str × Addr)) (fp : List Addr), PG (X.blk s H scope (compEnvC scope cl C X.env) fp) (.Name x px) (gName i))
    (he : ∀ (s : Shared) (H : Hp) (C : Addr) (cl : List (Str × Addr)) (fp : List Addr), PE (X.blk s H scope (compEnvC scope cl C X.env) fp) elt (gE X.K An ge)) (hs : ∀ x, foldedSetIterable iter X.env x = pure x := by intro _; rfl) :
    PS X (.Assign [.Name y py] (.ListComp elt [⟨.Name x px, iter, [], 0⟩] scope pos) spos) (gS X.K An (sOwn j (fLc gi (tgName i) gYes ge [i]))) :=
  (ps_setLc (own := [(x, i)]) hc hN hy hyl hsw hi ok hg (fun _ _ _ _ _ => pts_nil) he hs).imp fun De σ H q => lc_of (tgOk_name (by simp)) (fun σ H Q ⟨s, h, P, re, l, g, k⟩ => k true H h (Step.refl h H) re g) σ H _ (own_of De σ H q)
theorem s_lcIf {elt t : Expr} {scope : Scope} {x y : Str} {i j : Nat} {px py spos : Pos} {gi : gTA} {ge : gTE} {gc : gTT} (hc : X.calm = true) (hN : X.N.Nodup) (hy : X.N[j]? = some y) (hyl : X.env.scope.names.lookup y = some .local)
    (hsw : swapsWith (.ListComp elt [⟨.Name x px, iter, [t], 0⟩] scope pos) (some (.Name y py)) spos.line X.env = pure true) (hi : PI X (.Name x px) iter (gI X.K An gi)) (ok : BlkOk X.N X.env.scope scope [(x, i)])
    (hg : ∀ (s : Shared) (H : Hp) (C : Addr) (cl : List (Str × Addr)) (fp : List Addr), PG (X.blk s H scope (compEnvC scope cl C X.env) fp) (.Name x px) (gName i))
    (ht : ∀ (s : Shared) (H : Hp) (C : Addr) (cl : List (Str × Addr)) (fp : List Addr), PT (X.blk s H scope (compEnvC scope cl C X.env) fp) t (gT X.K An gc))
    (he : ∀ (s : Shared) (H : Hp) (C : Addr) (cl : List (Str × Addr)) (fp : List Addr), PE (X.blk s H scope (compEnvC scope cl C X.env) fp) elt (gE X.K An ge)) (hs : ∀ x, foldedSetIterable iter X.env x = pure x := by intro _; rfl) :
    PS X (.Assign [.Name y py] (.ListComp elt [⟨.Name x px, iter, [t], 0⟩] scope pos) spos) (gS X.K An (sOwn j (fLc gi (tgName i) gc ge [i]))) :=
  (ps_setLc (own := [(x, i)]) hc hN hy hyl hsw hi ok hg (fun s H C cl fp => pts_one (ht s H C cl fp)) he hs).imp fun De σ H q => lc_of (tgOk_name (by simp)) (fun _ _ _ q => q) σ H _ (own_of De σ H q)
theorem s_lcF {elt : Expr} {scope : Scope} {x y : Str} {i j : Nat} {px py spos : Pos} {gi : gTA} {ge : gTE} (hc : X.calm = true) (hN : X.N.Nodup) (hy : X.N[j]? = some y) (hyl : X.env.scope.names.lookup y = some .local)
    (hsw : swapsWith (.ListComp elt [⟨.Name x px, iter, [], 0⟩] scope pos) (some (.Name y py)) spos.line X.env = pure true) (hi : PI X (.Name x px) iter (gI X.K An gi)) (ok : BlkOk X.N X.env.scope scope [(x, i)])
    (hg : ∀ (s : Shared) (H : Hp) (C : Addr) (cl : List (Str × Addr)) (fp : List Addr), PG (X.blk s H scope (compEnvC scope cl C X.env) fp) (.Name x px) (gName i))
    (he : ∀ (s : Shared) (H : Hp) (C : Addr) (cl : List (Str × Addr)) (fp : List Addr), PE (X.blk s H scope (compEnvC scope cl C X.env) fp) elt (gE X.K An ge)) (hs : ∀ x, foldedSetIterable iter X.env x = pure x := by intro _; rfl) :
    PS X (.Assign [.Name y py] (.ListComp elt [⟨.Name x px, iter, [], 0⟩] scope pos) spos) (gS X.K An (sSet j (gFr (fLc gi (tgName i) gYes ge [i])))) :=
  (ps_setLc (own := [(x, i)]) hc hN hy hyl hsw hi ok hg (fun _ _ _ _ _ => pts_nil) he hs).imp fun De σ H q => lc_of (tgOk_name (by simp)) (fun σ H Q ⟨s, h, P, re, l, g, k⟩ => k true H h (Step.refl h H) re g) σ H _ (setF_of De σ H q)
theorem s_lcIfF {elt t : Expr} {scope : Scope} {x y : Str} {i j : Nat} {px py spos : Pos} {gi : gTA} {ge : gTE} {gc : gTT} (hc : X.calm = true) (hN : X.N.Nodup) (hy : X.N[j]? = some y) (hyl : X.env.scope.names.lookup y = some .local)
    (hsw : swapsWith (.ListComp elt [⟨.Name x px, iter, [t], 0⟩] scope pos) (some (.Name y py)) spos.line X.env = pure true) (hi : PI X (.Name x px) iter (gI X.K An gi)) (ok : BlkOk X.N X.env.scope scope [(x, i)])
    (hg : ∀ (s : Shared) (H : Hp) (C : Addr) (cl : List (Str × Addr)) (fp : List Addr), PG (X.blk s H scope (compEnvC scope cl C X.env) fp) (.Name x px) (gName i))
    (ht : ∀ (s : Shared) (H : Hp) (C : Addr) (cl : List (Str × Addr)) (fp : List Addr), PT (X.blk s H scope (compEnvC scope cl C X.env) fp) t (gT X.K An gc))
    (he : ∀ (s : Shared) (H : Hp) (C : Addr) (cl : List (Str × Addr)) (fp : List Addr), PE (X.blk s H scope (compEnvC scope cl C X.env) fp) elt (gE X.K An ge)) (hs : ∀ x, foldedSetIterable iter X.env x = pure x := by intro _; rfl) :
    PS X (.Assign [.Name y py] (.ListComp elt [⟨.Name x px, iter, [t], 0⟩] scope pos) spos) (gS X.K An (sSet j (gFr (fLc gi (tgName i) gc ge [i])))) :=
  (ps_setLc (own := [(x, i)]) hc hN hy hyl hsw hi ok hg (fun s H C cl fp => pts_one (ht s H C cl fp)) he hs).imp fun De σ H q => lc_of (tgOk_name (by simp)) (fun _ _ _ q => q) σ H _ (setF_of De σ H q)
end
end Gh

namespace Gh
open PySem PySem.Spec PyProof.Rows L2
/-! ### methods that change an owned list -/
abbrev RM := GH → List D → List D → List D → D → Prop
def MTL (K : Fg) (r : V → List V → Hp → VK → Prop) (R : RM) : Prop := ∀ (p : Addr) (xs vs : List V) (ds es ds' : List D) (c : D) (H : Hp) (h : GH) (Q : VK), Rel K h H → H p = some (.lst xs) → Dvs K h H xs ds → Dvs K h H vs es → R h ds es ds' c →
  (∀ v xs', Dvs K h H xs' ds' → Dv K h H v c → Q v (upd H p (.lst xs'))) → r (.ref p) vs H Q
def gMl (R : RM) (go : gTE) (ga : gTA) : gTE := fun s h P => go s h fun o h1 => ∃ p ds0, o = .ref p ∧ h1 p = some (.lst ds0) ∧ ga s h1 fun es h2 => ∃ ds ds' c, h2 p = some (.lst ds) ∧ R h2 ds es ds' c ∧ P c (put h2 p (.lst ds'))
section
variable {X : Cx} {An : AN} {a b e o tg iter : Expr} {es : List Expr} {ga gb go : gTE} {gas : gTA} {gt : gTT} {pos p : Pos} {st : Stmt} {sts : List Stmt} {g g1 g2 : gTS}
theorem ml_fin {K : Fg} {r : V → List V → Hp → VK → Prop} {R : RM} (m : MTL K r R) {q : Addr} {vs : List V} {ds es ds' : List D} {c : D} {H : Hp} {h : GH} {Q : VK} (re : Rel K h H) (ho : h q = some (.lst ds)) (dv : Dvs K h H vs es) (hr : R h ds es ds' c)
    (k : ∀ v H', Step h H (put h q (.lst ds')) H' → Rel K (put h q (.lst ds')) H' → Dv K (put h q (.lst ds')) H' v c → Q v H') : r (.ref q) vs H Q := by
  obtain ⟨xs, hx, rs⟩ := re q _ ho
  refine m q xs vs ds es ds' c H h Q re hx rs dv hr fun v xs' rs' dv' => ?_
  have st : Step h H (put h q (GO.lst ds')) (upd H q (.lst xs')) := Step.set (by rw [ho]; simp)
  exact k v _ st (re.put st ⟨xs', upd_same, rs'.mono st⟩) (dv'.mono st)
theorem e_ml {name : Str} {id : String} {r : V → List V → Hp → VK → Prop} {R : RM} {apos cpos : Pos} (m : MTL X.K r R)
    (raw : ∀ {to : TE} {t : TA}, PE X o to → PA X (e :: es) t → PE X (.Call (.Attribute o name apos) (e :: es) [] cpos) (tBM X.K "list" r to t)) (ho : PE X o (gE X.K An go)) (ha : PA X (e :: es) (gA X.K An gas)) :
    PE X (.Call (.Attribute o name apos) (e :: es) [] cpos) (gE X.K An (gMl R go gas)) := (raw ho ha).imp fun σ H Q ⟨s, h, P, re, l, g, k⟩ => by
  refine ⟨s, h, _, re, l, g, fun x H1 d h1 s1 re1 dx ⟨q, ds0, ed, ho1, g1⟩ => ?_⟩
  subst ed
  cases dx
  obtain ⟨xs, hx, rs⟩ := re1 q _ ho1
  refine ⟨Or.inl ⟨rfl, xs, .inl (.inl hx)⟩, s, h1, _, re1, l.mono s1, g1, fun vs H2 es h2 s2 re2 dv ⟨ds, ds', c, ho2, hr, pp⟩ => ?_⟩
  exact ml_fin m re2 ho2 dv hr fun v H' st re3 dv3 => k v H' c _ ((s1.trans s2).trans st) re3 dv3 pp
theorem e_ml0 {name : Str} {id : String} {r : V → List V → Hp → VK → Prop} {R : RM} {apos cpos : Pos} (m : MTL X.K r R)
    (raw : ∀ {to : TE}, PE X o to → PE X (.Call (.Attribute o name apos) [] [] cpos) (tBM0 X.K "list" r to)) (ho : PE X o (gE X.K An go)) :
    PE X (.Call (.Attribute o name apos) [] [] cpos) (gE X.K An (gMl R go aNil)) := (raw ho).imp fun σ H Q ⟨s, h, P, re, l, g, k⟩ => by
  refine ⟨s, h, _, re, l, g, fun x H1 d h1 s1 re1 dx ⟨q, ds0, ed, ho1, g1⟩ => ?_⟩
  subst ed
  cases dx
  obtain ⟨xs, hx, rs⟩ := re1 q _ ho1
  obtain ⟨ds, ds', c, ho2, hr, pp⟩ := g1
  exact ⟨Or.inl ⟨rfl, xs, .inl (.inl hx)⟩, ml_fin m re1 ho2 .nil hr fun v H' st re3 dv3 => k v H' c _ (s1.trans st) re3 dv3 pp⟩
def RApp : RM := fun _ ds es ds' c => ∃ d, es = [d] ∧ ds.length < sizeLine ∧ ds' = ds ++ [d] ∧ c = .non
theorem mApp {K : Fg} : MTL K rAppend RApp := by
  intro q xs vs ds es ds' c H h Q re hx rs dvx hr k
  obtain ⟨d, rfl, hz, rfl, rfl⟩ := hr
  obtain ⟨v, rfl, dv⟩ := dvs1 dvx
  exact ⟨q, xs, v, rfl, rfl, hx, by rw [rs.length]; exact hz, k _ _ (rs.append (.cons dv .nil)) .non⟩
theorem e_append {apos cpos : Pos} (ho : PE X o (gE X.K An go)) (ha : PA X [e] (gA X.K An gas)) (raw : ∀ {to : TE} {t : TA}, PE X o to → PA X [e] t → PE X (.Call (.Attribute o "append" apos) [e] [] cpos) (tBM X.K "list" rAppend to t) := by
      intro to t h1 h2; exact pe_bm PySem.F.plainAttrs_list PySem.F.slot_list_append PySem.F.type_list_append mt_append h1 h2) : PE X (.Call (.Attribute o "append" apos) [e] [] cpos) (gE X.K An (gMl RApp go gas)) := e_ml (id := "list.append") mApp raw ho ha
def RExt : RM := fun h ds es ds' c => ∃ d zs, es = [d] ∧ vw h d = .lst zs ∧ ds.length + zs.length ≤ sizeLine ∧ ds' = ds ++ zs ∧ c = .non
theorem mExt {K : Fg} : MTL K rExtend RExt := by
  intro q xs vs ds es ds' c H h Q re hx rs dvx hr k
  obtain ⟨d, zs, rfl, ev, hz, rfl, rfl⟩ := hr
  obtain ⟨v, rfl, dv⟩ := dvs1 dvx
  obtain ⟨b, ys, rfl, hb, rb⟩ := vw_lst re dv ev
  exact ⟨q, b, xs, ys, rfl, rfl, hx, hb, by rw [rs.length, rb.length]; exact hz, k _ _ (rs.append rb) .non⟩
theorem e_extend {apos cpos : Pos} (ho : PE X o (gE X.K An go)) (ha : PA X [e] (gA X.K An gas)) (raw : ∀ {to : TE} {t : TA}, PE X o to → PA X [e] t → PE X (.Call (.Attribute o "extend" apos) [e] [] cpos) (tBM X.K "list" rExtend to t) := by
      intro to t h1 h2; exact pe_bm PySem.F.plainAttrs_list PySem.F.slot_list_extend PySem.F.type_list_extend mt_extend h1 h2) : PE X (.Call (.Attribute o "extend" apos) [e] [] cpos) (gE X.K An (gMl RExt go gas)) := e_ml (id := "list.extend") mExt raw ho ha
theorem Dvs.eraseIdx {K : Fg} {h : GH} {H : Hp} : ∀ {vs : List V} {ds : List D} (i : Nat), Dvs K h H vs ds → Dvs K h H (vs.eraseIdx i) (ds.eraseIdx i)
  | _, _, _, .nil => .nil
  | _, _, 0, .cons _ t => t
  | _, _, i + 1, .cons r t => .cons r (Dvs.eraseIdx i t)
/-- xs.pop(i), 0 ≤ i -/
def RPopAt : RM := fun _ ds es ds' c => ∃ i : Nat, es = [.int (i : Int)] ∧ ds[i]? = some c ∧ i < 1000000 ∧ ds' = ds.eraseIdx i
theorem mPopAt {K : Fg} : MTL K rPopAt RPopAt := by
  intro q xs vs ds es ds' c H h Q re hx rs dvx hr k
  obtain ⟨i, rfl, hi, hb, rfl⟩ := hr
  obtain ⟨v, rfl, dv⟩ := dvs1 dvx
  cases dv
  obtain ⟨v, hv, dv⟩ := rs.get hi
  have hl : i < xs.length := (List.getElem?_eq_some_iff.mp hv).1
  refine ⟨q, xs, i, i, v, rfl, rfl, hx, by omega, by omega, ?_, hv, k _ _ (rs.eraseIdx i) dv⟩
  unfold seqIndex?
  simp
  omega
theorem e_popAt {apos cpos : Pos} (ho : PE X o (gE X.K An go)) (ha : PA X [e] (gA X.K An gas)) (raw : ∀ {to : TE} {t : TA}, PE X o to → PA X [e] t → PE X (.Call (.Attribute o "pop" apos) [e] [] cpos) (tBM X.K "list" rPopAt to t) := by
      intro to t h1 h2; exact pe_bm PySem.F.plainAttrs_list PySem.F.slot_list_pop PySem.F.type_list_pop mt_popAt h1 h2) : PE X (.Call (.Attribute o "pop" apos) [e] [] cpos) (gE X.K An (gMl RPopAt go gas)) := e_ml (id := "list.pop") mPopAt raw ho ha
def RClear : RM := fun _ ds es ds' c => es = [] ∧ ds' = [] ∧ c = .non
theorem mClear {K : Fg} : MTL K rClear RClear := by
  intro q xs vs ds es ds' c H h Q re hx rs dvx hr k
  obtain ⟨rfl, rfl, rfl⟩ := hr
  cases dvx
  exact ⟨q, xs, rfl, rfl, hx, k _ _ .nil .non⟩
theorem e_clear {apos cpos : Pos} (ho : PE X o (gE X.K An go)) (raw : ∀ {to : TE}, PE X o to → PE X (.Call (.Attribute o "clear" apos) [] [] cpos) (tBM0 X.K "list" rClear to) := by
      intro to h1; exact pe_bm0 PySem.F.plainAttrs_list PySem.F.slot_list_clear PySem.F.type_list_clear mt_clear h1) : PE X (.Call (.Attribute o "clear" apos) [] [] cpos) (gE X.K An (gMl RClear go aNil)) := e_ml0 (id := "list.clear") mClear raw ho
/-- o[i] = e, o an owned list -/
def tgSub (go gi : gTE) : gTG := fun d s h P => go s h fun o h1 => ∃ q, o = .ref q ∧ gi s h1 fun i h2 => ∃ ds k j, i = .int k ∧ h2 q = some (.lst ds) ∧ ixN ds.length k = some j ∧ P s (put h2 q (.lst (ds.set j d)))
theorem g_sub {i : Expr} {gi : gTE} (ho : PE X o (gE X.K An go)) (hi : PE X i (gE X.K An gi))
    (ha : ∀ v, assign (.Subscript o i pos) X.env v = (do
      let ov ← holding [v] (eval o X.env)
      let iv ← holding [v, ov] (eval i X.env)
      standAt pos
      holding [v, ov, iv] (setItem ov iv v)
      release [v, ov, iv] []) := by intro _; rfl) : PG X (.Subscript o i pos) (gG X.K An (tgSub go gi)) := (pg_sub ho hi set_list ha).imp fun v σ H Q ⟨d, s, h, P, re, l, dv, g, k⟩ => by
  refine ⟨s, h, _, re, l, g, fun x H1 a h1 s1 re1 dx ⟨q, ea, g1⟩ => ?_⟩
  subst ea
  cases dx
  refine ⟨s, h1, _, re1, l.mono s1, g1, fun y H2 b h2 s2 re2 dy ⟨ds, kk, j, eb, ho2, hj, pp⟩ => ?_⟩
  subst eb
  cases dy
  obtain ⟨xs, hx, rs⟩ := re2 q _ ho2
  have st : Step h2 H2 (put h2 q (GO.lst (ds.set j d))) (upd H2 q (.lst (xs.set j v))) := Step.set (by rw [ho2]; simp)
  have dv2 := (dv.mono (s1.trans s2)).mono st
  refine ⟨q, xs, kk, j, rfl, rfl, hx, by rw [rs.length]; exact hj, ?_⟩
  exact k σ _ s _ ((s1.trans s2).trans st) (re2.put st ⟨_, upd_same, Dvs.set dv2 j (rs.mono st)⟩) (l.mono ((s1.trans s2).trans st)) pp
/-! ### list(e), tuple(e) -/
theorem vals_get : ∀ {xs : List V} {us : List Value}, xs.length = us.length → (∀ (i : Nat) (v : V), xs[i]? = some v → ∃ u, us[i]? = some u ∧ RelV v u) → Vals xs us
  | [], [], _, _ => .nil
  | x :: xs, u :: us, e, h => by
    refine .cons ?_ (vals_get (by simpa using e) fun i v hv => h (i + 1) v (by simpa using hv))
    obtain ⟨u', e1, r⟩ := h 0 x rfl
    cases e1
    exact r
  | [], _ :: _, e, _ => by cases e
  | _ :: _, [], e, _ => by cases e
theorem signs_vals {x : Str} {acc : Array Value} (h : ItemsOf (SignAt x) acc x.cps.size) : Vals (x.cps.toList.map fun c => V.str ⟨#[c]⟩) acc.toList := by
  refine vals_get (by rw [List.length_map, Array.length_toList, Array.length_toList, h.1]) fun i v hv => ?_
  rw [List.getElem?_map] at hv
  obtain ⟨c, hc, rfl⟩ := Option.map_eq_some_iff.mp hv
  have hi : i < x.cps.size := by
    have := (List.getElem?_eq_some_iff.mp hc).1
    simpa using this
  have hj : i < acc.size := by rw [h.1]; exact hi
  refine ⟨acc[i], by simp [hj], ?_⟩
  obtain ⟨c', t, e1, e2⟩ := h.2 i acc[i] (by simp [hj])
  rw [Array.getElem?_toList] at hc
  rw [hc] at e1
  cases e1
  exact ⟨t, e2⟩
theorem call_list_txt (hc : X.calm = true) : CallR X (.type "list") (fun xs H Q => ∃ x : Str, xs = [.str x] ∧ x.length ≤ sizeLine ∧ ∀ l, H l = none → Q (.ref l) (upd H l (.lst (x.cps.toList.map fun c => V.str ⟨#[c]⟩)))) := by
  intro pins s σ H xs us Q I r h
  obtain ⟨x, rfl, hz, q⟩ := h
  obtain ⟨u, rfl, rx⟩ := vals1 r
  obtain ⟨t, rfl⟩ := rx
  refine PySem.call_list_str (I.ok.hd hc) x t (fun h' tk acc' c' kp e ia => ?_) hz
  have rv := signs_vals ia
  exact ⟨.ref s.heap.objs.size, _, I.laid (t' := tk) kp (Nat.le_refl _) (show ObjOk X.prog X.w _ h' _ (.lst _) from ⟨by rw [List.length_map, Array.length_toList]; exact hz, acc'.toList, c', rv, by simpa using e⟩), rfl, q _ (I.hok.fresh (Nat.le_refl _))⟩
theorem Dvs.signs {K : Fg} {h : GH} {H : Hp} : ∀ cs : List Nat, Dvs K h H (cs.map fun c => V.str ⟨#[c]⟩) (cs.map fun c => D.str ⟨#[c]⟩)
  | [] => .nil
  | _ :: r => .cons (.str _) (Dvs.signs r)
def fList (ga : gTA) : gTA := fun s h P => ga s h fun es h1 => ∃ d ds, es = [d] ∧ (vw h1 d = .lst ds ∨ vw h1 d = .tup ds ∨ ∃ x : Str, d = .str x ∧ x.length ≤ sizeLine ∧ ds = x.cps.toList.map fun c => D.str ⟨#[c]⟩) ∧ P ds h1
theorem f_list (hm : X.mg "list" = none) (ha : PA X [e] (gA X.K An gas)) (hg : Gl X "list" := by rfl) (he : starEach [e] X.env = [(false, eval e X.env)] := by rfl) (hc : X.calm = true := by rfl) : PE X (.Call (.Name "list" p) [e] [] pos) (gF X.K An (fList gas)) :=
  (pe_callTy (crOr call_list_of (call_list_txt hc)) hg hm (by decide +kernel) ha (by decide) (by decide) he (by rfl)).imp fun σ H Q ⟨s, h, P, re, l, g, k⟩ => by
    refine ⟨s, h, _, re, l, g, fun vs H1 es h1 s1 re1 dvx ⟨d, ds, ee, hv, pp⟩ => ?_⟩
    subst ee
    obtain ⟨v, rfl, dv⟩ := dvs1 dvx
    rcases hv with hv | hv | ⟨x, hv, hz, hd⟩
    · obtain ⟨q, xs, rfl, hx, rs⟩ := vw_lst re1 dv hv
      exact .inl ⟨q, xs, rfl, .inl (.inl (.inl hx)), fun t n => k t ds _ h1 (re1.free n) (s1.trans (Step.newO n)) (re1.newO n rs) pp⟩
    · obtain ⟨q, xs, rfl, hx, rs⟩ := vw_tup dv hv
      exact .inl ⟨q, xs, rfl, .inr hx.sq, fun t n => k t ds _ h1 (re1.free n) (s1.trans (Step.newO n)) (re1.newO n rs) pp⟩
    · subst hv hd
      cases dv
      exact .inr ⟨x, rfl, hz, fun t n => k t _ _ h1 (re1.free n) (s1.trans (Step.newO n)) (re1.newO n (Dvs.signs _)) pp⟩
def RTuple : RC2 := fun h ds c => ∃ d xs, ds = [d] ∧ (vw h d = .lst xs ∨ vw h d = .tup xs) ∧ c = .tup xs
theorem e_tuple (hm : X.mg "tuple" = none) (ha : PA X [e] (gA X.K An gas)) (hg : Gl X "tuple" := by rfl) (he : starEach [e] X.env = [(false, eval e X.env)] := by rfl) : PE X (.Call (.Name "tuple" p) [e] [] pos) (gE X.K An (gCB RTuple gas)) :=
  e_ct call_tuple_of (by
    intro vs H h ds c Q re dvx hr k
    obtain ⟨d, xs, rfl, hv, rfl⟩ := hr
    obtain ⟨v, rfl, dv⟩ := dvs1 dvx
    rcases hv with hv | hv
    · obtain ⟨q, ys, rfl, hx, rs⟩ := vw_lst re dv hv
      exact ⟨q, ys, rfl, .inl ⟨.inl (.inl hx), fun t n => k _ _ (Step.new n) (re.new n) (rs.tup_new re n)⟩⟩
    · obtain ⟨q, ys, rfl, hx, rs⟩ := vw_tup dv hv
      exact ⟨q, ys, rfl, .inr ⟨hx.sq, k _ H (Step.refl h H) re (.tup hx rs)⟩⟩) hm (by decide +kernel) ha hg (by decide) (by decide) he (by rfl)
/-! ### x op= e -/
def sAug (i : Nat) (R : R3) (ga : gTE) : gTS := fun N s h => ∃ x, s[i]? = some (some x) ∧ ga s h fun y h1 => ∃ c, R h1 x y c ∧ N.nx (s.set i (some c)) h1
theorem s_aug {i : Nat} {x : Str} {op : Operator} {ti : TIp} {R : R3} {pos' : Pos} (o : OPL X.K ti R) (hp : PIp X op ti) (hN : X.N.Nodup) (he : PE X e (gE X.K An ga)) (hi : X.N[i]? = some x := by rfl) (hx : Loc X.env.scope x := by first | exact Or.inl rfl | exact Or.inr rfl) (hf : X.fn x = true ∨ X.env.scope.names.lookup x = some .local := by first | exact .inl rfl | exact .inr rfl) :
    PS X (.AugAssign (.Name x pos') op e pos) (gS X.K An (sAug i R ga)) := (ps_aug hN hi hx he hp hf).imp fun De σ H ⟨s, h, N, re, l, ⟨x, ex, g⟩, m⟩ => by
  obtain ⟨v, hv, dv⟩ := l.2 i x ex
  refine ⟨v, hv, s, h, _, re, l, g, fun y H1 b h1 s1 re1 dy ⟨c, hr, pp⟩ => ?_⟩
  exact o v y H1 h1 x b c _ re1 (dv.mono s1) dy hr fun z H2 st re2 dz => m.nx _ H2 _ h1 (s1.trans st) re2 ((l.mono (s1.trans st)).set dz) pp
theorem s_augAdd {i : Nat} {x : Str} {pos' : Pos} (hN : X.N.Nodup) (he : PE X e (gE X.K An ga)) (hi : X.N[i]? = some x := by rfl) (hx : Loc X.env.scope x := by first | exact Or.inl rfl | exact Or.inr rfl) (hf : X.fn x = true ∨ X.env.scope.names.lookup x = some .local := by first | exact .inl rfl | exact .inr rfl) :
    PS X (.AugAssign (.Name x pos') .Add e pos) (gS X.K An (sAug i (fun h a b c => match vw h a, vw h b with
    | .int i, .int j => c = .int (i + j)
    | _, _ => False) ga)) := s_aug (ti := rI0 fun i j => .int (i + j)) (opl_int0 fun _ _ _ _ => .int _) iop_add hN he hi hx hf
theorem iop_mulA : OpR X (inplaceOp .Mult) (rI (fun i j => CMul i j ∨ CMulW i j) fun i j => .int (i * j)) := opI fun _ _ _ _ _ _ _ hc q => imul_int q (hc.elim (fun z => z.ok) (fun z => z.ok))
theorem s_augMul {i : Nat} {x : Str} {pos' : Pos} (hN : X.N.Nodup) (he : PE X e (gE X.K An ga)) (hi : X.N[i]? = some x := by rfl) (hx : Loc X.env.scope x := by first | exact Or.inl rfl | exact Or.inr rfl) (hf : X.fn x = true ∨ X.env.scope.names.lookup x = some .local := by first | exact .inl rfl | exact .inr rfl) :
    PS X (.AugAssign (.Name x pos') .Mult e pos) (gS X.K An (sAug i (fun h a b c => match vw h a, vw h b with
    | .int i, .int j => (CMul i j ∨ CMulW i j) ∧ c = .int (i * j)
    | _, _ => False) ga)) := s_aug (ti := rI (fun i j => CMul i j ∨ CMulW i j) fun i j => .int (i * j)) (opl_int fun _ _ _ _ => .int _) iop_mulA hN he hi hx hf
end
/-! ### a def by its body -/
section
variable {P : Program} {w : World} {K : Fg} {mg : Str → Option Value} {base : Heap}
theorem gfun {x : Str} {st : Stmt} {f : Addr} {fd : FuncData} {N ps : List Str} {k : Nat} {S : GSpec} {g : gTS} (F : Fun K x x st f fd) (hm : mg x = some (.ref f)) (b : Binds K fd ps []) (sc : FnScope N ps (defScope st)) (len : ∀ ds h P, S ds h P → ds.length = ps.length)
    (hd : ∀ (cdv : Value) (A : Around) (outer : List Env) (s : Shared) (H : Hp) (E : XK), Room k (A.deeper (envOfC x (defScope st) s.heap.objs.size f cdv)) → PSs (cxOf CX0 P w K mg base N x (defScope st) f cdv A outer s H E).nox (defBody st) (gS K AN.top g))
    (hg : ∀ ds h P, S ds h P → g { nx := fun _ h' => P .non h', rt := P } (startG N ds) h) : Fc P w K mg base (k + 1) x S := by
  refine ⟨f, ?_, hm, F.kp⟩
  have ok : FnOk P w K mg base CX0 (k + 1) f fd ps (GSP K S) := by
    refine F.ok sc (fun vs H Q E ⟨ds, h, P, re, dv, s, _⟩ => by rw [dv.length]; exact len _ _ _ s) (fun cdv A outer s H vs Q E hr ⟨ds, h, P, re, dv, hs, kk⟩ => ⟨_, hd cdv A outer s H E hr, ?_⟩)
    exact ⟨startG N ds, h, _, re, Sl.begin dv trivial, hg ds h P hs, fun σ' H' s' h' st re' l' p => kk _ H' _ h' st re' .non p, fun v H' d h' st re' dv' p => kk v H' d h' st re' dv' p, fun _ _ _ _ _ _ _ z => z.elim, fun _ _ _ _ _ _ _ z => z.elim⟩
  have r := ok.raw b .nil
  exact r.imp fun vs H Q E q => by rw [List.append_nil]; exact q
end
end Gh

namespace Gh
open PySem L2
/-! ### comparisons as tests -/
section
variable {X : Cx} {An : AN} {a b c e : Expr} {es : List Expr} {ga gb gc : gTE} {gas : gTA} {pos p : Pos}
theorem tTest_of {K : Fg} {An : AN} {r : R2} {R : R3} (o : OPL K r R) (σ : St) (H : Hp) (Q : Bool → Hp → Prop) (q : gT K An (gB (gBin R ga gb)) σ H Q) : tTest (tOp r (gE K An ga) (gE K An gb)) σ H Q := by
  obtain ⟨s, h, P, re, l, g, k⟩ := q
  refine two o σ H _ ⟨s, h, _, re, l, g, fun v H1 d h1 s1 re1 dv ⟨z, e, p⟩ => ?_⟩
  subst e
  exact ⟨z, dv_bl dv, k z H1 h1 s1 re1 p⟩
theorem t_cmp {op : CmpOp} {r : R2} {R : R3} (ho : OpR X (compareOp op) r) (o : OPL X.K r R) (ha : PE X a (gE X.K An ga)) (hb : PE X b (gE X.K An gb)) (hm : behindInMarks op b = false) : PT X (.Compare a [op] [b] pos) (gT X.K An (gB (gBin R ga gb))) :=
  (pt_cmpR ho ha hb hm).imp fun σ H Q q => tTest_of o σ H Q q
theorem t_eq {k : Nat} (hr : Room k X.A) (ha : PE X a (gE X.K An ga)) (hb : PE X b (gE X.K An gb)) : PT X (.Compare a [.Eq] [b] pos) (gT X.K An (gB (gBin (REq false) ga gb))) := t_cmp (op_eq.or (op_eqD hr.units)) lEq ha hb (nomark _)
theorem t_ne {k : Nat} (hr : Room k X.A) (ha : PE X a (gE X.K An ga)) (hb : PE X b (gE X.K An gb)) : PT X (.Compare a [.NotEq] [b] pos) (gT X.K An (gB (gBin (REq true) ga gb))) := t_cmp (op_ne.or (op_neD hr.units)) lNe ha hb (nomark _)
theorem t_lt (ha : PE X a (gE X.K An ga)) (hb : PE X b (gE X.K An gb)) : PT X (.Compare a [.Lt] [b] pos) (gT X.K An (gB (gBin (RCmp fun i j => decide (i < j)) ga gb))) := t_cmp op_lt lCmp ha hb (nomark _)
theorem t_le (ha : PE X a (gE X.K An ga)) (hb : PE X b (gE X.K An gb)) : PT X (.Compare a [.LtE] [b] pos) (gT X.K An (gB (gBin (RCmp fun i j => decide (i ≤ j)) ga gb))) := t_cmp op_le lCmp ha hb (nomark _)
theorem t_gt (ha : PE X a (gE X.K An ga)) (hb : PE X b (gE X.K An gb)) : PT X (.Compare a [.Gt] [b] pos) (gT X.K An (gB (gBin (RCmp fun i j => decide (j < i)) ga gb))) := t_cmp op_gt lCmp ha hb (nomark _)
theorem t_ge (ha : PE X a (gE X.K An ga)) (hb : PE X b (gE X.K An gb)) : PT X (.Compare a [.GtE] [b] pos) (gT X.K An (gB (gBin (RCmp fun i j => decide (j ≤ i)) ga gb))) := t_cmp op_ge lCmp ha hb (nomark _)
theorem t_isN {j} {p : Pos} (ha : PE X a (gE X.K An ga)) : PT X (.Compare a [.Is] [.Constant .none j p] pos) (gT X.K An (gB (gUn (RIsN false) ga))) :=
  (pt_cmpR op_isN ha pe_non (nomark _)).imp fun σ H Q ⟨s, h, P, re, l, g, k⟩ => ⟨s, h, _, re, l, g, fun x H1 a h1 s1 re1 dx ⟨c, hr, z, e, p⟩ => by
    subst hr
    cases e
    refine ⟨rfl, _, rfl, ?_⟩
    rw [dv_isN dx]
    exact k _ H1 h1 s1 re1 p⟩
theorem t_notN {j} {p : Pos} (ha : PE X a (gE X.K An ga)) : PT X (.Compare a [.IsNot] [.Constant .none j p] pos) (gT X.K An (gB (gUn (RIsN true) ga))) :=
  (pt_cmpR op_notN ha pe_non (nomark _)).imp fun σ H Q ⟨s, h, P, re, l, g, k⟩ => ⟨s, h, _, re, l, g, fun x H1 a h1 s1 re1 dx ⟨c, hr, z, e, p⟩ => by
    subst hr
    cases e
    refine ⟨rfl, _, rfl, ?_⟩
    rw [dv_isN dx]
    exact k _ H1 h1 s1 re1 p⟩
theorem t_chain {op op' : CmpOp} {r r' : R2} {R R' : R3} (ho : OpR X (compareOp op) r) (ho' : OpR X (compareOp op') r') (o : OPL X.K r R) (o' : OPL X.K r' R') (ha : PE X a (gE X.K An ga)) (hb : PE X b (gE X.K An gb)) (hc : PE X c (gE X.K An gc)) (hm : lastMarks [op, op'] [b, c] = false) :
    PT X (.Compare a [op, op'] [b, c] pos) (gT X.K An (gB (gChain R R' ga gb gc))) := (pt_chain ho ho' ha hb hc hm).imp fun σ H Q ⟨s, h, P, re, l, g, k⟩ => by
  refine ⟨s, h, _, re, l, g, fun x H1 a h1 s1 re1 dx g1 => ?_⟩
  refine ⟨s, h1, _, re1, l.mono s1, g1, fun y H2 b h2 s2 re2 dy ⟨z, hz, g2⟩ => ?_⟩
  refine o x y H2 h2 a b (.bl z) _ re2 (dx.mono s2) dy hz fun v H3 s3 re3 dv => ⟨z, dv_bl dv, ?_⟩
  have s13 := (s1.trans s2).trans s3
  cases z with
  | true =>
    rw [if_pos rfl] at g2
    rw [if_pos rfl]
    refine ⟨s, h2, _, re3, l.mono s13, g2, fun y' H4 c h4 s4 re4 dy' ⟨y2, hy, zz, ez, p⟩ => ?_⟩
    subst ez
    exact o' y y' H4 h4 b c _ _ re4 (dy.mono (s3.trans s4)) dy' hy fun v H5 s5 re5 dv => ⟨zz, dv_bl dv, k zz H5 h4 ((s13.trans s4).trans s5) re5 p⟩
  | false =>
    rw [if_neg Bool.false_ne_true] at g2
    rw [if_neg Bool.false_ne_true]
    obtain ⟨zz, ez, p⟩ := g2
    cases ez
    exact ⟨false, rfl, k _ H3 h2 s13 re3 p⟩
/-! ### in -/
def atomV : D → Option V
  | .non => some .non
  | .bl b => some (.bl b)
  | .int i => some (.int i)
  | .str x => some (.str x)
  | _ => none
def atomVs : List D → Option (List V)
  | [] => some []
  | d :: r => (atomV d).bind fun x => (atomVs r).map (x :: ·)
theorem Dv.atom {K : Fg} {h : GH} {H : Hp} {v x : V} {d : D} (k : Dv K h H v d) (e : atomV d = some x) : v = x ∧ flatV x = true := by
  cases k <;> cases e <;> exact ⟨rfl, rfl⟩
theorem Dvs.atoms {K : Fg} {h : GH} {H : Hp} : ∀ {vs xs : List V} {ds : List D}, Dvs K h H vs ds → atomVs ds = some xs → vs = xs ∧ xs.all flatV = true
  | _, _, _, .nil, e => by cases e; exact ⟨rfl, rfl⟩
  | _, _, _, .cons (d := d) (ds := ds) a r, e => by
    rw [atomVs] at e
    cases q : atomV d with
    | none => rw [q] at e; cases e
    | some x =>
      cases q2 : atomVs ds with
      | none => rw [q, q2] at e; cases e
      | some xs =>
        rw [q, q2] at e
        cases e
        obtain ⟨rfl, h1⟩ := a.atom q
        obtain ⟨rfl, h2⟩ := Dvs.atoms r q2
        exact ⟨rfl, by rw [List.all_cons, h1, h2]; rfl⟩
/-- x in (a, b ..), of atoms; c in a text, c one sign -/
def RIn (neg : Bool) : R3 := fun h a b c => match vw h b with
  | .lst ds => ∃ x xs, atomV a = some x ∧ atomVs ds = some xs ∧ c = .bl (if neg then !inV x xs else inV x xs)
  | .tup ds => ∃ x xs, atomV a = some x ∧ atomVs ds = some xs ∧ c = .bl (if neg then !inV x xs else inV x xs)
  | .str y => ∃ k : Nat, a = .str ⟨#[k]⟩ ∧ c = .bl (if neg then !decide (k ∈ y.cps.toList) else decide (k ∈ y.cps.toList))
  | _ => False
def rInA (K : Fg) : R2 := fun x y H Q => rIn K false x y H Q ∨ ∃ (c : Nat) (z : Str), x = .str ⟨#[c]⟩ ∧ y = .str z ∧ Q (.bl (decide (c ∈ z.cps.toList))) H
def rNotInA (K : Fg) : R2 := fun x y H Q => rIn K true x y H Q ∨ ∃ (c : Nat) (z : Str), x = .str ⟨#[c]⟩ ∧ y = .str z ∧ Q (.bl (!decide (c ∈ z.cps.toList))) H
theorem lIn {K : Fg} : OPL K (rInA K) (RIn false) := by
  intro x y H h a b c Q re dx dy hr k
  unfold RIn at hr
  split at hr
  · rename_i ds eb
    obtain ⟨x', xs, e1, e2, rfl⟩ := hr
    obtain ⟨p, ys, e3, q, rs⟩ := vw_lst re dy eb
    obtain ⟨rfl, f1⟩ := dx.atom e1
    obtain ⟨rfl, f2⟩ := rs.atoms e2
    exact .inl ⟨p, ys, e3, .inl (.inl (.inl q)), f1, f2, k _ H (Step.refl h H) re (.bl _)⟩
  · rename_i ds eb
    obtain ⟨x', xs, e1, e2, rfl⟩ := hr
    obtain ⟨p, ys, e3, q, rs⟩ := vw_tup dy eb
    obtain ⟨rfl, f1⟩ := dx.atom e1
    obtain ⟨rfl, f2⟩ := rs.atoms e2
    exact .inl ⟨p, ys, e3, .inr q.sq, f1, f2, k _ H (Step.refl h H) re (.bl _)⟩
  · rename_i y' eb
    obtain ⟨kk, rfl, rfl⟩ := hr
    cases dx
    exact .inr ⟨kk, y', rfl, vw_str dy eb, k _ H (Step.refl h H) re (.bl _)⟩
  · exact hr.elim
theorem lNotIn {K : Fg} : OPL K (rNotInA K) (RIn true) := by
  intro x y H h a b c Q re dx dy hr k
  unfold RIn at hr
  split at hr
  · rename_i ds eb
    obtain ⟨x', xs, e1, e2, rfl⟩ := hr
    obtain ⟨p, ys, e3, q, rs⟩ := vw_lst re dy eb
    obtain ⟨rfl, f1⟩ := dx.atom e1
    obtain ⟨rfl, f2⟩ := rs.atoms e2
    exact .inl ⟨p, ys, e3, .inl (.inl (.inl q)), f1, f2, k _ H (Step.refl h H) re (.bl _)⟩
  · rename_i ds eb
    obtain ⟨x', xs, e1, e2, rfl⟩ := hr
    obtain ⟨p, ys, e3, q, rs⟩ := vw_tup dy eb
    obtain ⟨rfl, f1⟩ := dx.atom e1
    obtain ⟨rfl, f2⟩ := rs.atoms e2
    exact .inl ⟨p, ys, e3, .inr q.sq, f1, f2, k _ H (Step.refl h H) re (.bl _)⟩
  · rename_i y' eb
    obtain ⟨kk, rfl, rfl⟩ := hr
    cases dx
    exact .inr ⟨kk, y', rfl, vw_str dy eb, k _ H (Step.refl h H) re (.bl _)⟩
  · exact hr.elim
theorem e_in (ha : PE X a (gE X.K An ga)) (hb : PE X b (gE X.K An gb)) (hm : behindInMarks .In b = false := by rfl) : PE X (.Compare a [.In] [b] pos) (gE X.K An (gBin (RIn false) ga gb)) := e_cmp (op_in_seq.or op_in_sign) lIn ha hb hm
theorem e_notIn (ha : PE X a (gE X.K An ga)) (hb : PE X b (gE X.K An gb)) (hm : behindInMarks .NotIn b = false := by rfl) : PE X (.Compare a [.NotIn] [b] pos) (gE X.K An (gBin (RIn true) ga gb)) := e_cmp (op_notIn_seq.or op_notIn_sign) lNotIn ha hb hm
theorem t_in (ha : PE X a (gE X.K An ga)) (hb : PE X b (gE X.K An gb)) (hm : behindInMarks .In b = false := by rfl) : PT X (.Compare a [.In] [b] pos) (gT X.K An (gB (gBin (RIn false) ga gb))) := t_cmp (op_in_seq.or op_in_sign) lIn ha hb hm
theorem t_notIn (ha : PE X a (gE X.K An ga)) (hb : PE X b (gE X.K An gb)) (hm : behindInMarks .NotIn b = false := by rfl) : PT X (.Compare a [.NotIn] [b] pos) (gT X.K An (gB (gBin (RIn true) ga gb))) := t_cmp (op_notIn_seq.or op_notIn_sign) lNotIn ha hb hm
/-- return a new list that is owned by whoever gets it -/
def sRetO (g : gTA) : gTS := fun N s h => g s h fun ds h1 => ∀ p, h1 p = none → N.rt (.ref p) (put h1 p (.lst ds))
theorem s_retO (he : PE X e (gF X.K An gas)) : PS X (.Return (some e) pos) (gS X.K An (sRetO gas)) := (ps_ret he).imp fun De σ H ⟨s, h, N, re, l, g, m⟩ => by
  refine ⟨s, h, _, re, l, g, fun t ds H1 h1 n s1 re1 p => ?_⟩
  exact m.rt _ H1 _ _ s1 re1 (.ref t) (p t n)
def sRetN : gTS := fun N _ h => N.rt .non h
theorem s_retN : PS X (.Return none pos) (gS X.K An sRetN) := ps_retN.imp fun De σ H ⟨s, h, N, re, l, g, m⟩ => m.rt _ H _ h (Step.refl h H) re .non g
end
abbrev RAddI : R3 := fun h a b c => match vw h a, vw h b with
    | .int i, .int j => c = .int (i + j)
    | _, _ => False
abbrev RMulI : R3 := fun h a b c => match vw h a, vw h b with
    | .int i, .int j => (CMul i j ∨ CMulW i j) ∧ c = .int (i * j)
    | _, _ => False
end Gh

namespace Gh
open PySem PySem.Spec PyProof.Rows L2
section
variable {X : Cx} {An : AN} {a b c e : Expr} {es : List Expr} {ga gb gc : gTE} {gas : gTA} {pos p : Pos}
/-- a, b = a list -/
def tgUnl (n : Nat) (t : gTGs) : gTG := fun d s h P => ∃ ds, d = .lst ds ∧ ds.length = n ∧ t ds s h P
theorem g_unl {t : gTGs} {k n : Nat} (hc : X.calm = true) (h : PGs X es (gGs X.K An t)) (hn : (assignEach es X.env).length = n := by rfl) (hst : (assignEach es X.env).findIdx? (·.1) = none := by rfl) : PG X (.Tuple es k pos) (gG X.K An (tgUnl n t)) := (pg_unl hc h hn hst).imp fun v σ H Q ⟨d, s, h, P, re, l, dv, ⟨ds, e, hl, g⟩, k⟩ => by
  subst e
  cases dv with
  | lst nn t rs => exact ⟨_, _, rfl, .inl (.inl t), by rw [rs.length]; exact hl, ds, s, h, P, re, l, rs, g, k⟩
end
section
variable {P : Program} {w : World} {K : Fg} {mg : Str → Option Value} {base : Heap}
/-- def f(*v) -/
theorem gfunStar {x pv : Str} {st : Stmt} {f : Addr} {fd : FuncData} {N : List Str} {k : Nat} {S : GSpec} {g : gTS} (F : Fun K x x st f fd) (hm : mg x = some (.ref f)) (sc : FnScope N [pv] (defScope st))
    (hb : ∀ (kV doc pm : Value) (an : Option Addr) (cdv ct : Value) (rest : List Value), bindArgs (PySem.W.fnOf x x (defArgs st) (defBody st) (defScope st) .none kV doc pm an cdv ct) ⟨rest, []⟩ = (newTuple rest >>= fun t => pure [(pv, t)]))
    (len : ∀ ds h P, S ds h P → ds.length ≤ sizeLine)
    (hd : ∀ (cdv : Value) (A : Around) (outer : List Env) (s : Shared) (H : Hp) (E : XK), Room k (A.deeper (envOfC x (defScope st) s.heap.objs.size f cdv)) → PSs (cxOf CX0 P w K mg base N x (defScope st) f cdv A outer s H E).nox (defBody st) (gS K AN.top g))
    (hg : ∀ ds h P, S ds h P → g { nx := fun _ h' => P .non h', rt := P } (startG N [.tup ds]) h) : Fc P w K mg base (k + 1) x S := by
  refine ⟨f, ?_, hm, F.kp⟩
  obtain ⟨oc, od, kV, doc, pm, an, cdv, ct, osl, rfl, lk, hcd⟩ := F.ex
  have r : FnR P w K mg base CX0 (k + 1) f _ := StX.fn_star (ps := []) (pv := pv) (sp := GSP K fun ds h P => ∃ ds', ds = [.tup ds'] ∧ S ds' h P) lk hcd sc StX.cxUp_none (fun us rest hl => by
      have e : us = [] := List.eq_nil_of_length_eq_zero hl
      subst e
      exact hb kV doc pm an cdv ct rest) (fun A outer s H vs Q E hr ⟨ds, h, P, re, dv, ⟨ds', e, hs⟩, kk⟩ => by
      subst e
      refine ⟨_, (hd cdv A outer s H E hr).nox, ?_⟩
      exact ⟨startG N [.tup ds'], h, _, re, Sl.begin dv trivial, hg ds' h P hs, fun σ' H' s' h' st re' l' p => kk _ H' _ h' st re' .non p, fun v H' d h' st re' dv' p => kk v H' d h' st re' dv' p, fun _ _ _ _ _ _ _ z => z.elim, fun _ _ _ _ _ _ _ z => z.elim⟩)
  refine r.imp fun vs H Q E ⟨ds, h, P, re, dv, hs, kk⟩ => ⟨[], vs, rfl, rfl, by rw [dv.length]; exact len _ _ _ hs, fun p n => ?_⟩
  exact ⟨[.tup ds], h, P, re.new n, .cons (dv.tup_new re n) .nil, ⟨ds, rfl, hs⟩, fun v H' d h' st re' dv' p => kk v H' d h' ((Step.new n).trans st) re' dv' p⟩
end
end Gh

namespace Gh
open PySem PySem.Spec PyProof.Rows L2
section
variable {X : Cx} {An : AN} {a b c e o : Expr} {es : List Expr} {ga gb gc go : gTE} {gas : gTA} {pos p : Pos}
/-- a new list that is owned -/
def gOw (g : gTA) : gTE := fun s h P => g s h fun ds h1 => ∀ p, h1 p = none → P (.ref p) (put h1 p (.lst ds))
theorem e_ow {g : gTA} (he : PE X e (gF X.K An g)) : PE X e (gE X.K An (gOw g)) := he.imp fun σ H Q ⟨s, h, P, re, l, g, k⟩ => ⟨s, h, _, re, l, g, fun p ds H' h1 n s1 re1 pp => k _ H' _ _ s1 re1 (.ref p) (pp p n)⟩

/-! ### methods of texts -/
def M1L (K : Fg) (r : V → List V → Hp → VK → Prop) (R : GH → Str → D → D → Prop) : Prop := ∀ z y H h b c Q, Rel K h H → Dv K h H y b → R h z b c → (∀ v H', Step h H h H' → Rel K h H' → Dv K h H' v c → Q v H') → r (.str z) [y] H Q
def gM1 (R : GH → Str → D → D → Prop) (go gb : gTE) : gTE := fun s h P => go s h fun a h1 => ∃ z, a = .str z ∧ gb s h1 fun b h2 => ∃ c, R h2 z b c ∧ P c h2
theorem m1_of {K : Fg} {An : AN} {r : V → List V → Hp → VK → Prop} {R : GH → Str → D → D → Prop} (o : M1L K r R) (σ : L2.St) (H : Hp) (Q : VK) (q : gE K An (gM1 R go gb) σ H Q) : tM1 r (gE K An go) (gE K An gb) σ H Q := by
  obtain ⟨s, h, P, re, l, g, k⟩ := q
  refine ⟨s, h, _, re, l, g, fun x H1 a h1 s1 re1 dx ⟨z, ea, g1⟩ => ?_⟩
  subst ea
  cases dx
  refine ⟨⟨z, rfl⟩, s, h1, _, re1, l.mono s1, g1, fun y H2 b h2 s2 re2 dy ⟨c, hc, p⟩ => ?_⟩
  exact o z y H2 h2 b c Q re2 dy hc fun v H' st re3 dv => k v H' c h2 ((s1.trans s2).trans st) re3 dv p
theorem Dvs.strs {K : Fg} {h : GH} {H : Hp} : ∀ {ys : List Str} {vs : List V}, Dvs K h H vs (ys.map D.str) → vs = ys.map V.str
  | [], _, k => by cases k; rfl
  | n :: r, _, k => by
    cases k with
    | cons a t =>
      cases a
      rw [Dvs.strs t]
      rfl
theorem Dvs.of_strs {K : Fg} {h : GH} {H : Hp} : ∀ ys : List Str, Dvs K h H (ys.map V.str) (ys.map D.str)
  | [] => .nil
  | n :: r => .cons (.str n) (Dvs.of_strs r)
def RJoin : GH → Str → D → D → Prop := fun h a b c => ∃ ys : List Str, (vw h b = .lst (ys.map .str) ∨ vw h b = .tup (ys.map .str)) ∧ (ys.map (·.length)).sum + ys.length * a.length ≤ 16777216 ∧ c = .str (Txt.join a ys)
theorem e_join {apos : Pos} (ho : PE X o (gE X.K An go)) (he : PE X e (gE X.K An gb)) (hs : starEach [e] X.env = [(false, eval e X.env)] := by rfl) (hbase : attributeBase o "join" X.env (eval o X.env) = eval o X.env := by rfl) (hline : (apos.endLine == pos.line) = true := by rfl) :
    PE X (.Call (.Attribute o "join" apos) [e] [] pos) (gE X.K An (gM1 RJoin go gb)) := (pe_join ho he hs hbase hline).imp (m1_of (R := RJoin) (by
  intro z y H h b c Q re dy hr k
  obtain ⟨ys, hv, hz, rfl⟩ := hr
  rcases hv with hv | hv
  · obtain ⟨p, xs, rfl, hx, rs⟩ := vw_lst re dy hv
    have e := rs.strs
    subst e
    exact ⟨z, p, ys, rfl, rfl, .inl (.inl (.inl hx)), hz, k _ H (Step.refl h H) re (.str _)⟩
  · obtain ⟨p, xs, rfl, hx, rs⟩ := vw_tup dy hv
    have e := rs.strs
    subst e
    exact ⟨z, p, ys, rfl, rfl, .inr hx.sq, hz, k _ H (Step.refl h H) re (.str _)⟩))
def RPart : GH → Str → D → D → Prop := fun _ a b c => ∃ y, b = .str y ∧ (y.length == 0) = false ∧ a.length ≤ sizeLine ∧ c = .tup [.str (Txt.partition a y).1, .str (Txt.partition a y).2.1, .str (Txt.partition a y).2.2]
theorem e_partition {apos : Pos} (ho : PE X o (gE X.K An go)) (he : PE X e (gE X.K An gb)) (hs : starEach [e] X.env = [(false, eval e X.env)] := by rfl) (hbase : attributeBase o "partition" X.env (eval o X.env) = eval o X.env := by rfl) (hline : (apos.endLine == pos.line) = true := by rfl) :
    PE X (.Call (.Attribute o "partition" apos) [e] [] pos) (gE X.K An (gM1 RPart go gb)) := (pe_partition ho he hs hbase hline).imp (m1_of (R := RPart) (by
  intro z y H h b c Q re dy hr k
  obtain ⟨y', rfl, h1, h2, rfl⟩ := hr
  cases dy
  exact ⟨z, y', rfl, rfl, h1, h2, fun p n => k _ _ (Step.new n) (re.new n) (Dvs.tup_new re (.cons (.str _) (.cons (.str _) (.cons (.str _) .nil))) n)⟩))
def RStarts : GH → Str → D → D → Prop := fun _ a b c => ∃ y, b = .str y ∧ c = .bl (Txt.startswith a y)
def REnds : GH → Str → D → D → Prop := fun _ a b c => ∃ y, b = .str y ∧ c = .bl (Txt.endswith a y)
theorem e_startswith {apos : Pos} (ho : PE X o (gE X.K An go)) (he : PE X e (gE X.K An gb)) (hs : starEach [e] X.env = [(false, eval e X.env)] := by rfl) (hbase : attributeBase o "startswith" X.env (eval o X.env) = eval o X.env := by rfl) (hline : (apos.endLine == pos.line) = true := by rfl) :
    PE X (.Call (.Attribute o "startswith" apos) [e] [] pos) (gE X.K An (gM1 RStarts go gb)) := (pe_m1 F.slot_str_startswith F.type_str_startswith mt_startswith ho he hs hbase hline).imp (m1_of (R := RStarts) (by
  intro z y H h b c Q re dy hr k
  obtain ⟨y', rfl, rfl⟩ := hr
  cases dy
  exact ⟨z, y', rfl, rfl, k _ H (Step.refl h H) re (.bl _)⟩))
theorem e_endswith {apos : Pos} (ho : PE X o (gE X.K An go)) (he : PE X e (gE X.K An gb)) (hs : starEach [e] X.env = [(false, eval e X.env)] := by rfl) (hbase : attributeBase o "endswith" X.env (eval o X.env) = eval o X.env := by rfl) (hline : (apos.endLine == pos.line) = true := by rfl) :
    PE X (.Call (.Attribute o "endswith" apos) [e] [] pos) (gE X.K An (gM1 REnds go gb)) := (pe_m1 F.slot_str_endswith F.type_str_endswith mt_endswith ho he hs hbase hline).imp (m1_of (R := REnds) (by
  intro z y H h b c Q re dy hr k
  obtain ⟨y', rfl, rfl⟩ := hr
  cases dy
  exact ⟨z, y', rfl, rfl, k _ H (Step.refl h H) re (.bl _)⟩))
def fSplit (go gb : gTE) : gTA := fun s h P => go s h fun a h1 => ∃ z, a = .str z ∧ gb s h1 fun b h2 => ∃ y, b = .str y ∧ (y.length == 0) = false ∧ z.length + 2 ≤ sizeLine ∧ P ((Txt.split z y).map .str) h2
theorem f_split {apos : Pos} (ho : PE X o (gE X.K An go)) (he : PE X e (gE X.K An gb)) (hs : starEach [e] X.env = [(false, eval e X.env)] := by rfl) (hbase : attributeBase o "split" X.env (eval o X.env) = eval o X.env := by rfl) (hline : (apos.endLine == pos.line) = true := by rfl) :
    PE X (.Call (.Attribute o "split" apos) [e] [] pos) (gF X.K An (fSplit go gb)) := (pe_split ho he hs hbase hline).imp fun σ H Q ⟨s, h, P, re, l, g, k⟩ => by
  refine ⟨s, h, _, re, l, g, fun x H1 a h1 s1 re1 dx ⟨z, ea, g1⟩ => ?_⟩
  subst ea
  cases dx
  refine ⟨⟨z, rfl⟩, s, h1, _, re1, l.mono s1, g1, fun y H2 b h2 s2 re2 dy ⟨y', eb, h3, h4, p⟩ => ?_⟩
  subst eb
  cases dy
  exact ⟨z, y', rfl, rfl, h3, h4, fun t n => k t _ _ h2 (re2.free n) ((s1.trans s2).trans (Step.newO n)) (re2.newO n (Dvs.of_strs _)) p⟩
/-! ### str(n), max, min -/
def RStr : RC2 := fun h ds c => ∃ i : Int, ds = [.int i] ∧ i.natAbs.log2 < 1920 ∧ c = .str (toString i)
theorem e_strc (hm : X.mg "str" = none) (ha : PA X [e] (gA X.K An gas)) (hg : Gl X "str" := by rfl) (he : starEach [e] X.env = [(false, eval e X.env)] := by rfl) : PE X (.Call (.Name "str" p) [e] [] pos) (gE X.K An (gCB RStr gas)) :=
  e_ct call_str_int (by
    intro vs H h ds c Q re dvx hr k
    obtain ⟨i, rfl, hz, rfl⟩ := hr
    obtain ⟨v, rfl, dv⟩ := dvs1 dvx
    cases dv
    exact ⟨i, rfl, hz, k _ H (Step.refl h H) re (.str _)⟩) hm (by decide +kernel) ha hg (by decide) (by decide) he (by rfl)
def RMax : RC2 := fun h ds c => ∃ i j : Int, ds = [.int i, .int j] ∧ c = .int (if j > i then j else i)
def RMin : RC2 := fun h ds c => ∃ i j : Int, ds = [.int i, .int j] ∧ c = .int (if j < i then j else i)
theorem e_max (hc : X.calm = true) (hm : X.mg "max" = none) (ha : PA X [a, b] (gA X.K An gas)) (hg : Gl X "max" := by rfl) (he : starEach [a, b] X.env = (false, eval a X.env) :: starEach [b] X.env := by rfl) (hpl : (backTo pos (starEach [b] X.env)).any (·.1) = false := by rfl) : PE X (.Call (.Name "max" p) [a, b] [] pos) (gE X.K An (gCB RMax gas)) :=
  e_cb (call_max2 hc) (by
    intro vs H h ds c Q re dvx hr k
    obtain ⟨i, j, rfl, rfl⟩ := hr
    obtain ⟨v, v', rfl, dv, dw⟩ := dvs2 dvx
    cases dv
    cases dw
    exact ⟨i, j, rfl, k _ H (Step.refl h H) re (.int _)⟩) hm (by decide +kernel) ha hg (by decide) (by decide) he hpl
theorem e_min (hc : X.calm = true) (hm : X.mg "min" = none) (ha : PA X [a, b] (gA X.K An gas)) (hg : Gl X "min" := by rfl) (he : starEach [a, b] X.env = (false, eval a X.env) :: starEach [b] X.env := by rfl) (hpl : (backTo pos (starEach [b] X.env)).any (·.1) = false := by rfl) : PE X (.Call (.Name "min" p) [a, b] [] pos) (gE X.K An (gCB RMin gas)) :=
  e_cb (call_min2 hc) (by
    intro vs H h ds c Q re dvx hr k
    obtain ⟨i, j, rfl, rfl⟩ := hr
    obtain ⟨v, v', rfl, dv, dw⟩ := dvs2 dvx
    cases dv
    cases dw
    exact ⟨i, j, rfl, k _ H (Step.refl h H) re (.int _)⟩) hm (by decide +kernel) ha hg (by decide) (by decide) he hpl
/-! ### list(text) -/
/-! ### comprehensions with several names -/
theorem wipe_at : ∀ (us : List Nat) (τ : L2.St) (j : Nat), (L2.wipe τ us)[j]? = if j < τ.length then (if j ∈ us then some none else τ[j]?) else none
  | [], τ, j => by
    unfold L2.wipe
    by_cases hj : j < τ.length
    · rw [if_pos hj]; simp
    · rw [if_neg hj]; exact List.getElem?_eq_none (by omega)
  | u :: us, τ, j => by
    unfold L2.wipe
    by_cases hj : j < τ.length
    · rw [if_pos hj]
      by_cases hu : u = j
      · subst hu
        rw [List.getElem?_set_self (by rw [wipe_length]; exact hj), if_pos List.mem_cons_self]
      · rw [List.getElem?_set_ne hu, wipe_at us τ j, if_pos hj]
        by_cases hm : j ∈ us
        · rw [if_pos hm, if_pos (List.mem_cons_of_mem _ hm)]
        · rw [if_neg hm, if_neg (by simp; exact ⟨fun z => hu z.symm, hm⟩)]
    · rw [if_neg hj]
      exact List.getElem?_eq_none (by rw [List.length_set, wipe_length]; omega)
theorem wipe_set2 {τ : L2.St} {i : Nat} {v : Option V} {vs : List Nat} (hi : i ∈ vs) : L2.wipe (τ.set i v) vs = L2.wipe τ vs := by
  apply List.ext_getElem?
  intro j
  rw [wipe_at, wipe_at, List.length_set]
  by_cases hj : j < τ.length
  · rw [if_pos hj, if_pos hj]
    by_cases hm : j ∈ vs
    · rw [if_pos hm, if_pos hm]
    · rw [if_neg hm, if_neg hm, List.getElem?_set_ne (fun z => hm (by rw [← z]; exact hi))]
  · rw [if_neg hj, if_neg hj]
theorem wipe_wipe (τ : L2.St) (vs : List Nat) : L2.wipe (L2.wipe τ vs) vs = L2.wipe τ vs := by
  apply List.ext_getElem?
  intro j
  rw [wipe_at, wipe_length]
  by_cases hj : j < τ.length
  · rw [if_pos hj, wipe_at, if_pos hj]
    by_cases hm : j ∈ vs
    · rw [if_pos hm, if_pos hm]
    · rw [if_neg hm]
  · rw [if_neg hj, wipe_at, if_neg hj]
def TgsOk (K : Fg) (An : AN) (vs : List Nat) (g : TGs) (gt : gTGs) : Prop := ∀ vl τ H ds s h (P : GS → GH → Prop) (Q : L2.St → Hp → Prop) σ, Rel K h H → Sl K An h H τ s → L2.wipe τ vs = L2.wipe σ vs → Dvs K h H vl ds → gt ds s h P →
  (∀ σ' H' s' h', L2.wipe σ' vs = L2.wipe σ vs → Step h H h' H' → Rel K h' H' → Sl K An h' H' σ' s' → P s' h' → Q σ' H') → g vl τ H Q
theorem tgsOk_nil {K : Fg} {An : AN} {vs : List Nat} : TgsOk K An vs gNil tgNil := fun vl τ H ds s h P Q σ re l ew dv ⟨e, g⟩ k => by
  subst e
  cases dv
  exact ⟨rfl, k _ H _ h ew (Step.refl h H) re l g⟩
theorem tgsOk_cons {K : Fg} {An : AN} {vs : List Nat} {i : Nat} {g : TGs} {gt : gTGs} (hi : i ∈ vs) (r : TgsOk K An vs g gt) : TgsOk K An vs (gCons (gName i) g) (tgCons (tgName i) gt) := fun vl τ H ds s h P Q σ re l ew dv ⟨d, rr, e, gg⟩ k => by
  subst e
  cases dv with
  | cons a t => exact ⟨_, _, rfl, r _ _ H _ _ h P Q σ re (l.set a) (by rw [wipe_set2 hi]; exact ew) t gg k⟩
theorem tgOk_tup {K : Fg} {An : AN} {vs : List Nat} {n : Nat} {g : TGs} {gt : gTGs} (r : TgsOk K An vs g gt) : TgOk K An vs (L2.gTup K n g) (tgTup n gt) := fun v σ H d s h P Q re l dv ⟨ds, e, hl, gg⟩ k => by
  subst e
  cases dv with
  | tup t rs => exact ⟨_, _, rfl, t.sq, by rw [rs.length]; exact hl, r _ _ H _ _ h P Q σ re l (wipe_wipe σ vs) rs gg k⟩
/-- [elt for (x, y, ..) in iter], with a test or none -/
theorem f_lcT {tg iter elt : Expr} {ifs : List Expr} {scope : Scope} {own : List (Str × Nat)} {n : Nat} {g : TGs} {gt : gTGs} {gi : gTA} {tt : TT} {gct : gTT} {ge : gTE} (hc : X.calm = true) (hN : X.N.Nodup) (hi : PI X tg iter (gI X.K An gi)) (ok : BlkOk X.N X.env.scope scope own) (tok : TgsOk X.K An (own.map (·.2)) g gt)
    (hg : ∀ (s : Shared) (H : Hp) (C : Addr) (cl : List (Str × Addr)) (fp : List Addr), PG (X.blk s H scope (compEnvC scope cl C X.env) fp) tg (L2.gTup X.K n g))
    (ht : ∀ (s : Shared) (H : Hp) (C : Addr) (cl : List (Str × Addr)) (fp : List Addr), PTs (X.blk s H scope (compEnvC scope cl C X.env) fp) ifs (gT X.K An gct))
    (he : ∀ (s : Shared) (H : Hp) (C : Addr) (cl : List (Str × Addr)) (fp : List Addr), PE (X.blk s H scope (compEnvC scope cl C X.env) fp) elt (gE X.K An ge)) (hs : ∀ x, foldedSetIterable iter X.env x = pure x := by intro _; rfl) :
    PE X (.ListComp elt [⟨tg, iter, ifs, 0⟩] scope pos) (gF X.K An (fLc gi (tgTup n gt) gct ge (own.map (·.2)))) :=
  (pe_lc (own := own) hc hN hi ok hg ht he hs).imp (lc_of (tgOk_tup tok) fun _ _ _ q => q)
theorem ts_yes {ifs : Unit} : PTs X [] (gT X.K An gYes) := ⟨fun pins s σ H Q I ⟨sl, h, P, re, l, g, k⟩ => pts_nil.run pins s σ H Q I (k true H h (Step.refl h H) re g)⟩
end
end Gh

namespace Gh
open PySem PySem.Spec PyProof.Rows L2
section
variable {prog : Program} {w : World} {A : Around} {E : Value → Shared → Prop} {s : Shared}
theorem walksFrom (hh : A.handled = none) (I ax : Addr) (hne : ax ≠ I) (items : Array Value) (j : Nat) (hj : j ≤ items.size) :
    Walks prog w A I [I, ax] [I] (items.size - j) (fun i v => items[j + i]? = some v) (fun i h => h.IsListIter I ax (j + i) ∧ h.IsList ax items) where
  sub := fun b hb => by simp at hb; simp [hb]
  frame := fun _ _ _ st hk => ⟨st.1.at fun o e => hk I (by simp) o e, st.2.at fun o e => hk ax (by simp) o e⟩
  item := fun i s Q E hi st hQ => by
    have hlt : j + i < items.size := by omega
    refine wpAny_pyNext_list_item st.1 st.2 (x := items[j + i]) (by simp [hlt]) fun h' hit' hs' => ?_
    exact hQ _ h' s.toks (by simp [hlt]) ⟨hit', st.2.extBut hs'.extBut hne⟩ fun b o hb e => hs'.extBut b o (fun h => hb (by simp [h])) e
  done := fun s Q E st hQ => wpAny_pyNext_list_end hh st.1 st.2 (by simp; omega) fun h' he' => hQ h' s.toks fun b o hb e => he' b o (fun h => hb (by simp [h])) e
  self := fun _ _ _ _ st hQ => wpAny_pyIter_listiter st.1 hQ
theorem star_items {l : Addr} {its : List Value} {i : Nat} {Q : List Value → Shared → Prop} (hh : A.handled = none) (hl : s.heap.IsList l its.toArray) (hi : i ≤ its.length) (hz : its.length ≤ sizeLine)
    (hQ : ∀ (h' : Heap) (tk : Nat), (∀ b o, s.heap.get? b = some o → h'.get? b = some o) → Q (its.take i ++ [.ref h'.objs.size]) { s with heap := h'.push { cls := .type "list", data := .seq (its.drop i).toArray }, toks := tk }) :
    wpAny (model prog w) A (unpackItems (.ref l) (i + 1) (some i)) Q E s := by
  have hlt : l ≠ s.heap.objs.size := by obtain ⟨o, ho, _⟩ := hl; exact Nat.ne_of_lt (Heap.lt_size ho)
  have hsz : its.toArray.size = its.length := by simp
  unfold unpackItems
  refine wpAny_bind ?_
  unfold notIterableAtAll
  refine wpAny_bind (wpAny_specialOf hl.typeIs slot_list_iter.lookup ?_)
  refine wpAny_pure ?_
  simp only [Bool.false_eq_true, if_false]
  refine wpAny_bind (wpAny_holding (wpAny_pyIter_list hl ?_))
  refine wpAny_bind (wpAny_holding (PySem.W.kun_draw hlt i 0 _ _ ⟨_, Heap.get?_push_size _ rfl, rfl, rfl⟩ (hl.push _) (by omega) fun h₁ hit₁ hs₁ => ?_))
  have hall : List.take i (List.drop 0 its.toArray.toList) = its.take i := by rw [List.drop_zero]
  rw [hall]
  rw [if_neg (by rw [List.length_take]; omega)]
  have hl₁ : h₁.IsList l its.toArray := (hl.push _).extBut hs₁.extBut hlt
  have k1 : ∀ b o, s.heap.get? b = some o → h₁.get? b = some o := fun b o e => hs₁.extBut b o (Nat.ne_of_lt (Heap.lt_size e)) (Heap.get?_push_of_some _ e)
  have W := (walksFrom (prog := prog) (w := w) (A := A.in1) hh s.heap.objs.size l hlt its.toArray i (by omega)).toS
  have hit₁' : h₁.IsListIter s.heap.objs.size l (i + 0) := by have := hit₁; rw [Nat.zero_add] at this; exact this
  have hb0 : ∀ b ∈ [s.heap.objs.size, l], b < h₁.objs.size := fun b hb => by
    rcases List.mem_cons.mp hb with z | z
    · subst z
      obtain ⟨o, ho, _⟩ := hit₁
      exact Heap.lt_size ho
    · rcases List.mem_cons.mp z with z | z
      · subst z
        obtain ⟨o, ho, _⟩ := hl₁
        exact Heap.lt_size ho
      · cases z
  refine wpAny_bind (wpAny_holding (wpAny_collect_iter (T := "list_iterator") (by simp) W (fun k st hs => hs.1.typeIs) ⟨hit₁', hl₁⟩ hb0 (by simp) (fun s' acc mv ia => ?_) (by omega)))
  have ea : acc.toList = its.drop i := by
    apply List.ext_getElem?
    intro k
    have h1 : acc.toList.length = its.length - i := by rw [Array.length_toList, ia.1, hsz]
    by_cases hk : k < its.length - i
    · have h2 : k < acc.size := by rw [ia.1, hsz]; exact hk
      have h3 := ia.2 k acc[k] (by simp [h2])
      rw [List.getElem?_drop, Array.getElem?_toList]
      rw [Array.getElem?_eq_getElem h2]
      simpa using h3.symm
    · rw [List.getElem?_eq_none (by omega), List.getElem?_eq_none (by rw [List.length_drop]; omega)]
  rw [ea]
  have e0 : i + 1 - 1 - i = 0 := by omega
  simp only [e0]
  rw [if_neg (by omega)]
  have e1 : (its.drop i).take ((its.drop i).length - 0) = its.drop i := by rw [Nat.sub_zero]; exact List.take_of_length_le (Nat.le_refl _)
  have e2 : (its.drop i).drop ((its.drop i).length - 0) = [] := by rw [Nat.sub_zero]; exact List.drop_eq_nil_of_le (Nat.le_refl _)
  rw [e1, e2]
  refine wpAny_bind (wpAny_newList ?_ (by rw [List.length_drop]; omega))
  refine wpAny_pure ?_
  rw [List.append_nil]
  obtain ⟨hp, hg, hd, ho, ht⟩ := mv
  obtain ⟨h2, g2, d2, t2, o2⟩ := s'
  simp only at hp hg hd ho ht ⊢
  subst hg hd ho
  exact hQ h2 t2 fun b o e => hp b o (by simp; exact Nat.ne_of_lt (Heap.lt_size e)) (k1 b o e)
end
section
variable {X : Cx} {An : AN} {e : Expr} {es : List Expr} {pos p : Pos}
/-- a, .., *r = a list -/
def gStarL (K : Fg) (i : Nat) (t : TGs) : TG := fun v σ H Q => ∃ a xs, v = .ref a ∧ SqL K H a xs ∧ i ≤ xs.length ∧ ∀ l, H l = none → t (xs.take i ++ [.ref l]) σ (upd H l (.lst (xs.drop i))) Q
theorem pg_starL {k i : Nat} {t : TGs} (hc : X.calm = true) (h : PGs X es t) (hn : (assignEach es X.env).length = i + 1 := by rfl) (hst : (assignEach es X.env).findIdx? (·.1) = some i := by rfl) : PG X (.Tuple es k pos) (gStarL X.K i t) := by
  refine ⟨fun pins s σ H v u Q I r hw => ?_⟩
  obtain ⟨a, xs, e1, hq, hl, hw⟩ := hw
  subst e1
  cases r
  obtain ⟨its, rv, pl, hz⟩ := I.list hq
  have hlen := rv.length
  have hl' : s.heap.IsList a its.toArray := by
    obtain ⟨o, m, e, c, d, q⟩ := pl
    exact ⟨o, e, c, m, q⟩
  rw [PyProof.Rows.assign_Tuple]
  refine wpAny_bind (wpAny_standAt ?_)
  unfold unpack
  rw [hn, hst]
  refine wpAny_bind (wpAny_holding (star_items (I.ok.hd hc) hl' (by omega) (by omega) fun h' tk hk => ?_))
  have I1 : Inv X pins σ H { s with heap := h', toks := tk } := I.kept (t' := tk) hk
  have I2 := I1.lnew (t' := tk) (rv.drop i) (by rw [List.length_drop]; omega)
  exact h.run pins _ σ _ _ _ Q I2 ((rv.take i).append (.cons (show RelV (.ref h'.objs.size) (.ref h'.objs.size) from rfl) .nil)) (hw _ I1.fresh)
theorem gs_star {t : gTG} {u : gTGs} (h1 : PG X e (gG X.K An t)) (h2 : PGs X es (gGs X.K An u)) (hs : (assignEach (.Starred e p :: es) X.env).map (·.2) = assign e X.env :: (assignEach es X.env).map (·.2) := by rfl) : PGs X (.Starred e p :: es) (gGs X.K An (tgCons t u)) := by
  have r : PGs X (.Starred e p :: es) (gCons (gG X.K An t) (gGs X.K An u)) := by
    refine ⟨fun pins s σ H vs us Q I r h => ?_⟩
    obtain ⟨v, vr, e1, h⟩ := h
    subst e1
    cases r with
    | cons r rr =>
      rw [hs]
      refine assignInOrder_cons (thn (h1.run pins s σ H _ _ _ I r h) fun _ s1 ⟨σ1, H1, I1, q1⟩ => ?_)
      exact h2.run pins s1 σ1 H1 _ _ Q I1 rr q1
  exact r.imp fun v σ H Q ⟨d, s, h, P, re, l, dv, ⟨d0, r0, e, g⟩, k⟩ => by
    subst e
    cases dv with
    | cons a r =>
      refine ⟨_, _, rfl, d0, s, h, _, re, l, a, g, fun σ' H' s' h' st re' l' q => ?_⟩
      exact ⟨r0, s', h', P, re', l', r.mono st, q, fun σ2 H2 s2 h2 st2 re2 l2 p => k σ2 H2 s2 h2 (st.trans st2) re2 l2 p⟩
def tgStarL (i : Nat) (t : gTGs) : gTG := fun d s h P => ∃ ds, vw h d = .lst ds ∧ i ≤ ds.length ∧ t (ds.take i ++ [.lst (ds.drop i)]) s h P
theorem Dvs.app {K : Fg} {h : GH} {H : Hp} : ∀ {vs : List V} {ds : List D} {us : List V} {es : List D}, Dvs K h H vs ds → Dvs K h H us es → Dvs K h H (vs ++ us) (ds ++ es)
  | _, _, _, _, .nil, k => k
  | _, _, _, _, .cons a r, k => .cons a (Dvs.app r k)
theorem g_starL {t : gTGs} {k i : Nat} (hc : X.calm = true) (h : PGs X es (gGs X.K An t)) (hn : (assignEach es X.env).length = i + 1 := by rfl) (hst : (assignEach es X.env).findIdx? (·.1) = some i := by rfl) : PG X (.Tuple es k pos) (gG X.K An (tgStarL i t)) := (pg_starL hc h hn hst).imp fun v σ H Q ⟨d, s, h, P, re, l, dv, ⟨ds, e, hl, g⟩, k⟩ => by
  obtain ⟨q, xs, rfl, hx, rs⟩ := vw_lst re dv e
  refine ⟨q, xs, rfl, .inl (.inl hx), by rw [rs.length]; exact hl, fun lp n => ?_⟩
  have st : Step h H h (upd H lp (.lst (xs.drop i))) := Step.new n
  have dl : Dv X.K h (upd H lp (.lst (xs.drop i))) (.ref lp) (.lst (ds.drop i)) := by
    have r1 := (re.newO n (Dvs.drop i rs)).letgo put_same
    rw [put_del (re.free n)] at r1
    exact r1
  exact ⟨ds.take i ++ [.lst (ds.drop i)], s, h, P, re.new n, l.mono st, Dvs.app ((Dvs.take i rs).mono st) (.cons dl .nil), g, fun σ2 H2 s2 h2 st2 re2 l2 p => k σ2 H2 s2 h2 (st.trans st2) re2 l2 p⟩
end
end Gh

namespace Gh
open PySem PySem.Spec PyProof.Rows L2
/-- some owned objects are let go -/
def dels (h : GH) : List Addr → GH
  | [] => h
  | p :: ps => dels (del h p) ps
theorem Step.dels {h : GH} {H : Hp} : ∀ ps : List Addr, Step h H (Gh.dels h ps) H
  | [] => Step.refl h H
  | p :: ps => (Step.del (p := p)).trans (Step.dels ps)
theorem Rel.dels {K : Fg} {h : GH} {H : Hp} (r : Rel K h H) : ∀ ps : List Addr, Rel K (Gh.dels h ps) H
  | [] => r
  | p :: ps => Rel.dels (r.del (p := p)) ps
theorem del_put2 {h : GH} {p q : Addr} {a b : GO} (hp : h p = none) (hq : h q = none) (ne : q ≠ p) : dels (del (put (put h p a) q b) q) [p] = h := by
  show del (del (put (put h p a) q b) q) p = h
  funext c
  by_cases z : c = p
  · subst z; rw [del_same, hp]
  · rw [del_ne z]
    by_cases y : c = q
    · subst y; rw [del_same, hq]
    · rw [del_ne y, put_ne y, put_ne z]
section
variable {X : Cx} {An : AN} {e : Expr} {ga : gTE} {pos : Pos}
/-- return; owned lists may be let go -/
def sRetX (ga : gTE) : gTS := fun N s h => ga s h fun d h1 => ∃ ps : List Addr, N.rt d (dels h1 ps) ∨ ∃ p ds, d = .ref p ∧ h1 p = some (.lst ds) ∧ N.rt (.lst ds) (dels (del h1 p) ps)
theorem s_retX (he : PE X e (gE X.K An ga)) : PS X (.Return (some e) pos) (gS X.K An (sRetX ga)) := (ps_ret he).imp fun De σ H ⟨s, h, N, re, l, g, m⟩ => by
  refine ⟨s, h, _, re, l, g, fun v H1 d h1 s1 re1 dv ⟨ps, pp⟩ => ?_⟩
  rcases pp with pp | ⟨q, ds, rfl, e, pp⟩
  · exact m.rt v H1 d _ (s1.trans (Step.dels ps)) (re1.dels ps) (dv.mono (Step.dels ps)) pp
  · cases dv
    exact m.rt _ H1 _ _ ((s1.trans Step.del).trans (Step.dels ps)) (re1.del.dels ps) ((re1.letgo e).mono (Step.dels ps)) pp
/-- [elt for (x, y, ..) in iter], with a test or none -/
theorem f_lcU {tg iter elt : Expr} {ifs : List Expr} {scope : Scope} (own : List (Str × Nat)) {n : Nat} {g : TGs} {gt : gTGs} {gi : gTA} {gct : gTT} {ge : gTE} (hc : X.calm = true) (hN : X.N.Nodup) (hi : PI X tg iter (gI X.K An gi)) (ok : BlkOk X.N X.env.scope scope own) (tok : TgsOk X.K An (own.map (·.2)) g gt)
    (hg : ∀ (s : Shared) (H : Hp) (C : Addr) (cl : List (Str × Addr)) (fp : List Addr), PG (X.blk s H scope (compEnvC scope cl C X.env) fp) tg (L2.gTup X.K n g))
    (ht : ∀ (s : Shared) (H : Hp) (C : Addr) (cl : List (Str × Addr)) (fp : List Addr), PTs (X.blk s H scope (compEnvC scope cl C X.env) fp) ifs (gT X.K An gct))
    (he : ∀ (s : Shared) (H : Hp) (C : Addr) (cl : List (Str × Addr)) (fp : List Addr), PE (X.blk s H scope (compEnvC scope cl C X.env) fp) elt (gE X.K An ge)) (hs : ∀ x, foldedSetIterable iter X.env x = pure x := by intro _; rfl) :
    PE X (.ListComp elt [⟨tg, iter, ifs, 0⟩] scope pos) (gF X.K An (fLc gi (tgTup n gt) gct ge (own.map (·.2)))) :=
  (pe_lc (own := own) hc hN hi ok hg ht he hs).imp (lc_of (tgOk_tup tok) fun _ _ _ q => q)
theorem s_lcU {tg iter elt : Expr} {ifs : List Expr} {scope : Scope} {y : Str} {j : Nat} {py spos : Pos} (own : List (Str × Nat)) {n : Nat} {g : TGs} {gt : gTGs} {gi : gTA} {gct : gTT} {ge : gTE} (hc : X.calm = true) (hN : X.N.Nodup) (hy : X.N[j]? = some y) (hyl : X.env.scope.names.lookup y = some .local)
    (hsw : swapsWith (.ListComp elt [⟨tg, iter, ifs, 0⟩] scope pos) (some (.Name y py)) spos.line X.env = pure true) (hi : PI X tg iter (gI X.K An gi)) (ok : BlkOk X.N X.env.scope scope own) (tok : TgsOk X.K An (own.map (·.2)) g gt)
    (hg : ∀ (s : Shared) (H : Hp) (C : Addr) (cl : List (Str × Addr)) (fp : List Addr), PG (X.blk s H scope (compEnvC scope cl C X.env) fp) tg (L2.gTup X.K n g))
    (ht : ∀ (s : Shared) (H : Hp) (C : Addr) (cl : List (Str × Addr)) (fp : List Addr), PTs (X.blk s H scope (compEnvC scope cl C X.env) fp) ifs (gT X.K An gct))
    (he : ∀ (s : Shared) (H : Hp) (C : Addr) (cl : List (Str × Addr)) (fp : List Addr), PE (X.blk s H scope (compEnvC scope cl C X.env) fp) elt (gE X.K An ge)) (hs : ∀ x, foldedSetIterable iter X.env x = pure x := by intro _; rfl) :
    PS X (.Assign [.Name y py] (.ListComp elt [⟨tg, iter, ifs, 0⟩] scope pos) spos) (gS X.K An (sOwn j (fLc gi (tgTup n gt) gct ge (own.map (·.2))))) :=
  (ps_setLc (own := own) hc hN hy hyl hsw hi ok hg ht he hs).imp fun De σ H q => lc_of (tgOk_tup tok) (fun _ _ _ q => q) σ H _ (own_of De σ H q)
theorem s_lcUF {tg iter elt : Expr} {ifs : List Expr} {scope : Scope} {y : Str} {j : Nat} {py spos : Pos} (own : List (Str × Nat)) {n : Nat} {g : TGs} {gt : gTGs} {gi : gTA} {gct : gTT} {ge : gTE} (hc : X.calm = true) (hN : X.N.Nodup) (hy : X.N[j]? = some y) (hyl : X.env.scope.names.lookup y = some .local)
    (hsw : swapsWith (.ListComp elt [⟨tg, iter, ifs, 0⟩] scope pos) (some (.Name y py)) spos.line X.env = pure true) (hi : PI X tg iter (gI X.K An gi)) (ok : BlkOk X.N X.env.scope scope own) (tok : TgsOk X.K An (own.map (·.2)) g gt)
    (hg : ∀ (s : Shared) (H : Hp) (C : Addr) (cl : List (Str × Addr)) (fp : List Addr), PG (X.blk s H scope (compEnvC scope cl C X.env) fp) tg (L2.gTup X.K n g))
    (ht : ∀ (s : Shared) (H : Hp) (C : Addr) (cl : List (Str × Addr)) (fp : List Addr), PTs (X.blk s H scope (compEnvC scope cl C X.env) fp) ifs (gT X.K An gct))
    (he : ∀ (s : Shared) (H : Hp) (C : Addr) (cl : List (Str × Addr)) (fp : List Addr), PE (X.blk s H scope (compEnvC scope cl C X.env) fp) elt (gE X.K An ge)) (hs : ∀ x, foldedSetIterable iter X.env x = pure x := by intro _; rfl) :
    PS X (.Assign [.Name y py] (.ListComp elt [⟨tg, iter, ifs, 0⟩] scope pos) spos) (gS X.K An (sSet j (gFr (fLc gi (tgTup n gt) gct ge (own.map (·.2)))))) :=
  (ps_setLc (own := own) hc hN hy hyl hsw hi ok hg ht he hs).imp fun De σ H q => lc_of (tgOk_tup tok) (fun _ _ _ q => q) σ H _ (setF_of De σ H q)
end
end Gh

namespace Gh
open PySem PySem.Spec PyProof.Rows L2
section
variable {X : Cx} {An : AN} {a b e : Expr} {ga gb : gTE} {gas : gTA} {pos : Pos}
/-- an owned list is let go -/
def gLet (ga : gTE) : gTE := fun s h P => ga s h fun d h1 => ∃ p ds, d = .ref p ∧ h1 p = some (.lst ds) ∧ P (.lst ds) (del h1 p)
theorem e_let (he : PE X e (gE X.K An ga)) : PE X e (gE X.K An (gLet ga)) := he.imp fun σ H Q ⟨s, h, P, re, l, g, k⟩ => by
  refine ⟨s, h, _, re, l, g, fun v H1 d h1 s1 re1 dv ⟨p, ds, ed, ep, pp⟩ => ?_⟩
  subst ed
  cases dv
  exact k _ H1 _ _ (s1.trans Step.del) re1.del (re1.letgo ep) pp
/-- list + list, owned -/
def fAdd (ga gb : gTE) : gTA := fun s h P => ga s h fun a h1 => gb s h1 fun b h2 => ∃ xs ys, vw h2 a = .lst xs ∧ vw h2 b = .lst ys ∧ xs.length + ys.length ≤ sizeLine ∧ P (xs ++ ys) h2
theorem f_add (ha : PE X a (gE X.K An ga)) (hb : PE X b (gE X.K An gb)) : PE X (.BinOp a .Add b pos) (gF X.K An (fAdd ga gb)) := (pe_op op_cat ha hb).imp fun σ H Q ⟨s, h, P, re, l, g, k⟩ => by
  refine ⟨s, h, _, re, l, g, fun x H1 d1 h1 s1 re1 dx g1 => ?_⟩
  refine ⟨s, h1, _, re1, l.mono s1, g1, fun y H2 d2 h2 s2 re2 dy ⟨xs, ys, e1, e2, hz, pp⟩ => ?_⟩
  obtain ⟨p, us, rfl, hp, rs⟩ := vw_lst re2 (dx.mono s2) e1
  obtain ⟨q, vs, rfl, hq, rt⟩ := vw_lst re2 dy e2
  refine ⟨p, q, us, vs, rfl, rfl, hp, hq, by rw [rs.length, rt.length]; exact hz, fun t n => ?_⟩
  exact k t _ _ h2 (re2.free n) ((s1.trans s2).trans (Step.newO n)) (re2.newO n (rs.append rt)) pp
/-- f'..' -/
def gFmt (ga : gTE) : gTE := fun s h P => ga s h fun d h1 => (∃ y, d = .str y ∧ y.length ≤ sizeLine ∧ P (.str y) h1) ∨ ∃ i : Int, d = .int i ∧ i.natAbs.log2 < 1920 ∧ P (.str (toString i)) h1
theorem j_fmt (he : PE X e (gE X.K An ga)) : PE X (.FormattedValue e (-1) none pos) (gE X.K An (gFmt ga)) := (pe_fmt he).imp fun σ H Q ⟨s, h, P, re, l, g, k⟩ => by
  refine ⟨s, h, _, re, l, g, fun v H1 d h1 s1 re1 dv p => ?_⟩
  rcases p with ⟨y, rfl, hz, p⟩ | ⟨i, rfl, hz, p⟩
  · cases dv
    exact .inl ⟨y, rfl, hz, k _ H1 _ h1 s1 re1 (.str _) p⟩
  · cases dv
    exact .inr ⟨i, rfl, hz, k _ H1 _ h1 s1 re1 (.str _) p⟩
def gJs : List gTE → Str → GS → GH → (Str → GH → Prop) → Prop
  | [], acc, _, h, P => P acc h
  | g :: gs, acc, s, h, P => g s h fun d h1 => ∃ y : Str, d = .str y ∧ (acc ++ y).length ≤ sizeLine ∧ gJs gs (acc ++ y) s h1 P
def gJoined (gs : List gTE) : gTE := fun s h P => gJs gs Str.empty s h fun x h1 => P (.str x) h1
theorem js_of {K : Fg} {An : AN} : ∀ (gs : List gTE) (acc : Str) (σ : L2.St) (H : Hp) (Q : Str → Hp → Prop) (s : GS) (h : GH) (P : Str → GH → Prop), Rel K h H → Sl K An h H σ s → gJs gs acc s h P → (∀ x H' h', Step h H h' H' → Rel K h' H' → P x h' → Q x H') → tJs (gs.map (gE K An)) acc σ H Q
  | [], acc, σ, H, Q, s, h, P, re, l, g, k => k acc H h (Step.refl h H) re g
  | g0 :: gs, acc, σ, H, Q, s, h, P, re, l, g, k => by
    refine ⟨s, h, _, re, l, g, fun v H1 d h1 s1 re1 dv ⟨y, ed, hz, g1⟩ => ?_⟩
    subst ed
    cases dv
    exact ⟨y, rfl, hz, js_of gs (acc ++ y) σ H1 Q s h1 P re1 (l.mono s1) g1 fun x H' h' s2 re2 p => k x H' h' (s1.trans s2) re2 p⟩
theorem j_nil : PJ X [] (([] : List gTE).map (gE X.K An)) := .nil
theorem j_cons {es : List Expr} {gs : List gTE} (h : PE X e (gE X.K An ga)) (r : PJ X es (gs.map (gE X.K An))) : PJ X (e :: es) ((ga :: gs).map (gE X.K An)) := .cons h r
theorem e_joined {v1 v2 : Expr} {rest : List Expr} {gs : List gTE} (h : PJ X (v1 :: v2 :: rest) (gs.map (gE X.K An))) : PE X (.JoinedStr (v1 :: v2 :: rest) pos) (gE X.K An (gJoined gs)) := (pe_joined h).imp fun σ H Q ⟨s, h, P, re, l, g, k⟩ =>
  js_of gs Str.empty σ H _ s h _ re l g fun x H' h' s1 re1 p => k _ H' _ h' s1 re1 (.str x) p
end
end Gh
namespace Gh
open PySem PySem.Spec PyProof.Rows L2
section
variable {X : Cx} {An : AN} {pos : Pos}
theorem e_globI {x : Str} {i : Int} (hm : ∃ t, X.mg x = some (.int i t)) (hg : Gl X x := by rfl) (hd : (x == ("__debug__" : Str)) = false := by decide) : PE X (.Name x pos) (gE X.K An (gC (.int i))) := by
  obtain ⟨t, hm⟩ := hm
  exact e_glob (v := .int i) hm ⟨t, rfl⟩ (fun _ _ => .int i) hg hd
theorem e_globS {x z : Str} (hm : ∃ t, X.mg x = some (.str z t)) (hg : Gl X x := by rfl) (hd : (x == ("__debug__" : Str)) = false := by decide) : PE X (.Name x pos) (gE X.K An (gC (.str z))) := by
  obtain ⟨t, hm⟩ := hm
  exact e_glob (v := .str z) hm ⟨t, rfl⟩ (fun _ _ => .str z) hg hd
end
end Gh

set_option maxHeartbeats 1000000
namespace Gh
open PySem L2
/-! ## numbers -/
theorem fmod_lt (a : Int) {b : Int} (h : b ≠ 0) : (a.fmod b).natAbs < b.natAbs := by
  rcases Int.lt_or_gt_of_ne h with hb | hb
  · have e1 := Int.fmod_eq_emod (a := a) (b := b)
    have e2 := Int.emod_nonneg a h
    have e3 : a % b < (b.natAbs : Nat) := Int.emod_lt a h
    rw [e1]
    split
    · rename_i hc
      rcases hc with hc | hc
      · omega
      · have := Int.emod_eq_zero_of_dvd hc
        rw [this]
        omega
    · rename_i hc
      have : a % b ≠ 0 := fun z => hc (.inr (Int.dvd_of_emod_eq_zero z))
      omega
  · have e1 := Int.fmod_nonneg_of_pos a hb
    have e2 := Int.fmod_lt_of_pos a hb
    omega
theorem gcd_fmod (a b : Int) : Int.gcd b (a.fmod b) = Int.gcd a b := by
  rw [Int.fmod_def, Int.gcd_sub_mul_left_right, Int.gcd_comm]
/-- bits -/
theorem log2_of {n b : Nat} (h : n < 2 ^ b) (h0 : 0 < b) : n.log2 < b := PySem.Flt.log2_lt_of h0 h
theorem pow_mono {a b : Nat} (h : a ≤ b) : 2 ^ a ≤ 2 ^ b := Nat.pow_le_pow_right (by decide) h
theorem lt_pow_mono {n a b : Nat} (hn : n < 2 ^ a) (h : a ≤ b) : n < 2 ^ b := Nat.lt_of_lt_of_le hn (pow_mono h)
/-! ## the gcd -/
def S_law_gcd : GSpec := fun ds h P => ∃ a b : Int, ds = [.int a, .int b] ∧ P (.int (Int.gcd a b : Nat)) h
def g_law_gcd : gTS := (sSeq (sWhile (gB (gBin (REq true) (gVar 1) (gC (.int 0))))
  (sPar 0 1 (aCons (gVar 1) (aCons (gBin RMod (gVar 0) (gVar 1)) aNil))))
 (sRet (gCB RAbs (aCons (gVar 0) aNil))))
theorem pure_law_gcd (ds : List D) (h : GH) (P : GP) (hs : S_law_gcd ds h P) : g_law_gcd { nx := fun _ h' => P .non h', rt := P } (startG ["_law_a", "_law_b"] ds) h := by
  obtain ⟨a, b, rfl, hp⟩ := hs
  show sWhile _ _ _ [some (.int a), some (.int b)] h
  refine ⟨fun m s h' => h' = h ∧ ∃ x y : Int, s = [some (.int x), some (.int y)] ∧ Int.gcd x y = Int.gcd a b ∧ m = y.natAbs, ⟨_, rfl, a, b, rfl, rfl, rfl⟩, fun m s h' ⟨eh, x, y, es, hg, em⟩ => ?_⟩
  subst eh es em
  refine ⟨_, rfl, _, rfl, _, rfl, ?_⟩
  refine ite2 (fun c => ?_) (fun c => ?_)
  · have hy : y ≠ 0 := by simpa using c
    refine ⟨_, rfl, _, rfl, _, rfl, _, ⟨hy, rfl⟩, _, _, rfl, _, fmod_lt x hy, rfl, y, x.fmod y, rfl, ?_, rfl⟩
    rw [gcd_fmod, hg]
  · have hy : y = 0 := by simpa using c
    subst hy
    refine ⟨_, rfl, _, ⟨_, rfl, rfl⟩, .inl ?_⟩
    have e : x.natAbs = Int.gcd a b := by rw [← hg]; simp
    show P (.int (x.natAbs : Nat)) h'
    rw [e]
    exact hp
theorem len_law_gcd (ds : List D) (h : GH) (P : GP) (hs : S_law_gcd ds h P) : ds.length = 2 := by obtain ⟨a, b, rfl, _⟩ := hs; rfl

/-! ## lowest terms -/
def low (a b : Int) : Int × Int := (a / (Int.gcd a b : Nat), b / (Int.gcd a b : Nat))
def fr (p : Int × Int) : D := .tup [.int p.1, .int p.2]
theorem gcd_div {a b : Int} (hb : b ≠ 0) (hz : b.natAbs < 2 ^ 9000) : ((Int.gcd a b : Nat) : Int) ≠ 0 ∧ ((Int.gcd a b : Nat) : Int).natAbs.log2 < 9000 := by
  have h1 := Int.gcd_pos_of_ne_zero_right a hb
  have h2 := Int.gcd_le_natAbs_right a hb
  refine ⟨by omega, ?_⟩
  rw [Int.natAbs_natCast]
  exact log2_of (Nat.lt_of_le_of_lt h2 hz) (by decide)
def S_law_low : GSpec := fun ds h P => ∃ a b : Int, ds = [.int a, .int b] ∧ b ≠ 0 ∧ b.natAbs < 2 ^ 9000 ∧ P (fr (low a b)) h
def g_law_low : gTS := (sSeq (sSet 2 (gCall S_law_gcd (aCons (gVar 0) (aCons (gVar 1) aNil))))
 (sRet (gTup (aCons (gBin RFdiv (gVar 0) (gVar 2)) (aCons (gBin RFdiv (gVar 1) (gVar 2)) aNil)))))
theorem two_le : (2 : Nat) ≤ sizeLine := by decide
theorem pure_law_low (ds : List D) (h : GH) (P : GP) (hs : S_law_low ds h P) : g_law_low { nx := fun _ h' => P .non h', rt := P } (startG ["_law_a", "_law_b", "_law_by"] ds) h := by
  obtain ⟨a, b, rfl, hb, hz, hp⟩ := hs
  have hg := gcd_div (a := a) hb hz
  refine ⟨_, rfl, _, rfl, a, b, rfl, ?_⟩
  refine ⟨_, rfl, _, rfl, _, ⟨hg, rfl⟩, _, rfl, _, rfl, _, ⟨hg, rfl⟩, two_le, .inl ?_⟩
  rw [Int.fdiv_eq_ediv_of_nonneg _ (by omega), Int.fdiv_eq_ediv_of_nonneg _ (by omega)]
  exact hp
theorem len_law_low (ds : List D) (h : GH) (P : GP) (hs : S_law_low ds h P) : ds.length = 2 := by obtain ⟨a, b, rfl, _⟩ := hs; rfl
/-! ## the bag -/
theorem RIx_own {h : GH} {p : Addr} {ds : List D} {i : Int} {c : D} (e : h p = some (.lst ds)) (a : atI ds i = some c) : RIx h (.ref p) (.int i) c := by
  unfold RIx
  rw [vw_own e]
  exact a
theorem RLen_own {h : GH} {p : Addr} {ds : List D} (e : h p = some (.lst ds)) : RLen h [.ref p] (.int (ds.length : Nat)) := by
  refine ⟨_, rfl, ?_⟩
  rw [vw_own e]
def S_law_pull : GSpec := fun ds h P => ∃ (b : Addr) (m : Int), ds = [.ref b, .int m] ∧ h b = some .bag ∧ 0 < m ∧ m.natAbs.log2 < 9000 ∧ ∀ k : Int, 0 ≤ k → k < m → P (.int k) h
def g_law_pull : gTS := (sSeq (sIf (gAnd (gB (gBin (REq false) (gBin RIx (gVar 0) (gC (.int 2))) (gC (.int 0)))) (gB (gBin (RCmp fun i j => decide (i < j)) (gBin RIx (gVar 0) (gC (.int 1))) (gCB RLen (aCons (gBin RIx (gVar 0) (gC (.int 0))) aNil)))))
  (sSeq (sSet 2 (gBin RIx (gBin RIx (gVar 0) (gC (.int 0))) (gBin RIx (gVar 0) (gC (.int 1)))))
 (sSeq (sAsg (gBin RAdd (gBin RIx (gVar 0) (gC (.int 1))) (gC (.int 1))) (tgSub (gVar 0) (gC (.int 1))))
 (sIf (gB (gBin (RCmp fun i j => decide (j ≤ i)) (gVar 2) (gBin RPow (gC (.int 10)) (gC (.int 18)))))
  (sAsg (gVar 2) (tgSub (gVar 0) (gC (.int 2))))
  (sAsg (gBin RMod (gBin RAdd (gBin RAdd (gBin RMul (gBin RIx (gVar 0) (gC (.int 3))) (gC (.int 40014))) (gBin RMul (gBin RMod (gVar 2) (gC (.int 2147483549))) (gC (.int 31)))) (gC (.int 11))) (gC (.int 2147483647))) (tgSub (gVar 0) (gC (.int 3)))))))
  sNext)
 (sSeq (sIf (gB (gBin (RCmp fun i j => decide (j < i)) (gBin RIx (gVar 0) (gC (.int 2))) (gC (.int 0))))
  (sSeq (sSet 3 (gBin RMod (gBin RIx (gVar 0) (gC (.int 2))) (gVar 1)))
 (sSeq (sAsg (gBin RFdiv (gBin RIx (gVar 0) (gC (.int 2))) (gVar 1)) (tgSub (gVar 0) (gC (.int 2))))
 (sRet (gVar 3))))
  sNext)
 (sSeq (sAsg (gBin RAdd (gBin RIx (gVar 0) (gC (.int 4))) (gC (.int 1))) (tgSub (gVar 0) (gC (.int 4))))
 (sSeq (sSet 4 (gBin RMod (gBin RAdd (gBin RIx (gVar 0) (gC (.int 3))) (gBin RMul (gBin RIx (gVar 0) (gC (.int 4))) (gC (.int 7919)))) (gC (.int 2147483647))))
 (sSeq (sAsg (gBin RMod (gBin RAdd (gBin RAdd (gBin RMul (gBin RMod (gBin RMul (gVar 4) (gVar 4)) (gC (.int 2147483629))) (gVar 4)) (gBin RMul (gC (.int 30029)) (gVar 4))) (gC (.int 1013))) (gC (.int 2147483647))) (tgSub (gVar 0) (gC (.int 3))))
 (sRet (gBin RMod (gBin RAdd (gBin RFdiv (gBin RIx (gVar 0) (gC (.int 3))) (gC (.int 67))) (gBin RMul (gBin RMod (gBin RIx (gVar 0) (gC (.int 3))) (gC (.int 8191))) (gC (.int 59)))) (gVar 1))))))))
def bagL (ns : List Int) (i g s c : Int) : GO := .lst [.lst (ns.map .int), .int i, .int g, .int s, .int c]
def BagIn (ns : List Int) (i g s c : Int) : Prop := ns.length ≤ 63 ∧ 0 ≤ i ∧ i ≤ (ns.length : Int) ∧ 0 ≤ g ∧ 0 ≤ s ∧ s < 2147483647 ∧ 0 ≤ c
theorem atI_ok {ns : List Int} {i : Int} (h0 : 0 ≤ i) (h1 : i < (ns.length : Int)) : ∃ v : Int, atI (ns.map D.int) i = some (.int v) := by
  have hi : i.toNat < ns.length := by omega
  have e : ((i.toNat : Nat) : Int) = i := by omega
  have q : atI (ns.map D.int) ((i.toNat : Nat) : Int) = some (.int ns[i.toNat]) := atI_nat (by rw [List.getElem?_map, List.getElem?_eq_getElem hi]; rfl)
  rw [e] at q
  exact ⟨_, q⟩
theorem fmod_in (a : Int) {b : Int} (h : 0 < b) : 0 ≤ a.fmod b ∧ a.fmod b < b := ⟨Int.fmod_nonneg_of_pos a h, Int.fmod_lt_of_pos a h⟩
theorem mulR {i j : Int} (h1 : -(2 ^ 64) < j) (h2 : j < 2 ^ 64) : CMul i j ∨ CMulW i j := .inl (.inr ⟨h1, h2⟩)
theorem mulL {i j : Int} (h1 : -(2 ^ 64) < i) (h2 : i < 2 ^ 64) : CMul i j ∨ CMulW i j := .inl (.inl ⟨h1, h2⟩)
/-- behind the first if -/
theorem pull_tail (b : Addr) (m : Int) (h : GH) (ns : List Int) (i g s c : Int) (hm : 0 < m) (hz : m.natAbs.log2 < 9000) (B : BagIn ns i g s c) (o2 : Option D) (N : GEnds)
    (hN : ∀ (i g s c k : Int), BagIn ns i g s c → 0 ≤ k → k < m → N.rt (.int k) (put h b (bagL ns i g s c))) :
    (sSeq (sIf (gB (gBin (RCmp fun i j => decide (j < i)) (gBin RIx (gVar 0) (gC (.int 2))) (gC (.int 0))))
  (sSeq (sSet 3 (gBin RMod (gBin RIx (gVar 0) (gC (.int 2))) (gVar 1)))
 (sSeq (sAsg (gBin RFdiv (gBin RIx (gVar 0) (gC (.int 2))) (gVar 1)) (tgSub (gVar 0) (gC (.int 2))))
 (sRet (gVar 3))))
  sNext)
 (sSeq (sAsg (gBin RAdd (gBin RIx (gVar 0) (gC (.int 4))) (gC (.int 1))) (tgSub (gVar 0) (gC (.int 4))))
 (sSeq (sSet 4 (gBin RMod (gBin RAdd (gBin RIx (gVar 0) (gC (.int 3))) (gBin RMul (gBin RIx (gVar 0) (gC (.int 4))) (gC (.int 7919)))) (gC (.int 2147483647))))
 (sSeq (sAsg (gBin RMod (gBin RAdd (gBin RAdd (gBin RMul (gBin RMod (gBin RMul (gVar 4) (gVar 4)) (gC (.int 2147483629))) (gVar 4)) (gBin RMul (gC (.int 30029)) (gVar 4))) (gC (.int 1013))) (gC (.int 2147483647))) (tgSub (gVar 0) (gC (.int 3))))
 (sRet (gBin RMod (gBin RAdd (gBin RFdiv (gBin RIx (gVar 0) (gC (.int 3))) (gC (.int 67))) (gBin RMul (gBin RMod (gBin RIx (gVar 0) (gC (.int 3))) (gC (.int 8191))) (gC (.int 59)))) (gVar 1)))))))
    N [some (.ref b), some (.int m), o2, none, none] (put h b (bagL ns i g s c)) := by
  obtain ⟨b1, b2, b3, b4, b5, b6, b7⟩ := B
  refine ⟨_, rfl, _, RIx_own put_same rfl, _, rfl, _, rfl, ?_⟩
  refine ite2 (fun cg => ?_) (fun cg => ?_)
  · have hg : 0 < g := by simpa using cg
    have hk := fmod_in g hm
    refine ⟨_, rfl, _, RIx_own put_same rfl, _, rfl, _, ⟨by omega, rfl⟩, ?_⟩
    refine ⟨_, rfl, _, RIx_own put_same rfl, _, rfl, _, ⟨⟨by omega, hz⟩, rfl⟩, ?_⟩
    refine ⟨_, rfl, _, rfl, _, _, _, rfl, put_same, rfl, ?_⟩
    refine ⟨_, rfl, .inl ?_⟩
    rw [put_put]
    refine hN i (g.fdiv m) s c _ ⟨b1, b2, b3, ?_, b5, b6, b7⟩ hk.1 hk.2
    rw [Int.fdiv_eq_ediv_of_nonneg _ (by omega)]
    exact Int.ediv_nonneg b4 (by omega)
  · refine ⟨_, rfl, _, RIx_own put_same rfl, _, rfl, ?_⟩
    refine ⟨_, rfl, _, rfl, _, _, _, rfl, put_same, rfl, ?_⟩
    rw [put_put]
    refine ⟨_, rfl, _, RIx_own put_same rfl, _, rfl, _, RIx_own put_same rfl, _, ⟨mulR (by decide) (by decide), rfl⟩, _, rfl, _, ⟨by decide, rfl⟩, ?_⟩
    have hsd := fmod_in (s + (c + 1) * 7919) (show (0 : Int) < 2147483647 by decide)
    generalize (s + (c + 1) * 7919).fmod 2147483647 = sd at hsd
    have hq := fmod_in (sd * sd) (show (0 : Int) < 2147483629 by decide)
    refine ⟨_, rfl, _, rfl, _, ⟨mulR (by omega) (by omega), rfl⟩, _, ⟨by decide, rfl⟩, _, rfl, _, ⟨mulR (by omega) (by omega), rfl⟩, _, rfl, _, ⟨mulL (by decide) (by decide), rfl⟩, _, rfl, _, rfl, _, ⟨by decide, rfl⟩, ?_⟩
    refine ⟨_, rfl, _, rfl, _, _, _, rfl, put_same, rfl, ?_⟩
    rw [put_put]
    generalize hw : ((sd * sd).fmod 2147483629 * sd + 30029 * sd + 1013) = w
    have hs2 := fmod_in w (show (0 : Int) < 2147483647 by decide)
    refine ⟨_, rfl, _, RIx_own put_same rfl, _, ⟨⟨by decide, by decide +kernel⟩, rfl⟩, _, rfl, _, RIx_own put_same rfl, _, ⟨by decide, rfl⟩, _, ⟨mulR (by decide) (by decide), rfl⟩, _, rfl, _, rfl, _, ⟨by omega, rfl⟩, .inl ?_⟩
    have hk := fmod_in ((w.fmod 2147483647).fdiv 67 + (w.fmod 2147483647).fmod 8191 * 59) hm
    exact hN i g (w.fmod 2147483647) (c + 1) _ ⟨b1, b2, b3, b4, hs2.1, hs2.2, by omega⟩ hk.1 hk.2

theorem RLen_lst {h : GH} {ds : List D} : RLen h [.lst ds] (.int (ds.length : Nat)) := ⟨_, rfl, rfl⟩
theorem pure_law_pull0 (b : Addr) (m : Int) (h : GH) (ns : List Int) (i g s c : Int) (hm : 0 < m) (hz : m.natAbs.log2 < 9000) (B : BagIn ns i g s c) (N : GEnds)
    (hN : ∀ (i g s c k : Int), BagIn ns i g s c → 0 ≤ k → k < m → N.rt (.int k) (put h b (bagL ns i g s c))) :
    g_law_pull N [some (.ref b), some (.int m), none, none, none] (put h b (bagL ns i g s c)) := by
  have B0 := B
  obtain ⟨b1, b2, b3, b4, b5, b6, b7⟩ := B
  refine ⟨_, rfl, _, RIx_own put_same rfl, _, rfl, _, rfl, ?_⟩
  refine ite2 (fun c1 => ?_) (fun c1 => ?_)
  · refine ⟨_, rfl, _, RIx_own put_same rfl, _, rfl, _, RIx_own put_same rfl, _, RLen_lst, _, rfl, _, rfl, ?_⟩
    refine ite2 (fun c2 => ?_) (fun c2 => ?_)
    · have hi : i < (ns.length : Int) := by simpa using c2
      obtain ⟨v, hv⟩ := atI_ok b2 hi
      refine ⟨_, rfl, _, RIx_own put_same rfl, _, rfl, _, RIx_own put_same rfl, _, hv, ?_⟩
      refine ⟨_, rfl, _, RIx_own put_same rfl, _, rfl, ?_⟩
      refine ⟨_, rfl, _, rfl, _, _, _, rfl, put_same, rfl, ?_⟩
      rw [put_put]
      refine ⟨_, rfl, _, ⟨⟨by decide, by decide, by decide⟩, rfl⟩, _, rfl, _, rfl, ?_⟩
      refine ite2 (fun c3 => ?_) (fun c3 => ?_)
      · have hv : (10 : Int) ^ 18 ≤ v := by simpa using c3
        refine ⟨_, rfl, _, rfl, _, rfl, _, _, _, rfl, put_same, rfl, ?_⟩
        rw [put_put]
        exact pull_tail b m h ns (i + 1) v s c hm hz ⟨b1, by omega, by omega, by omega, b5, b6, b7⟩ _ N hN
      · refine ⟨_, rfl, _, RIx_own put_same rfl, _, ⟨mulR (by decide) (by decide), rfl⟩, _, rfl, _, ⟨by decide, rfl⟩, _, ⟨mulR (by decide) (by decide), rfl⟩, _, rfl, _, rfl, _, ⟨by decide, rfl⟩, ?_⟩
        refine ⟨_, rfl, _, rfl, _, _, _, rfl, put_same, rfl, ?_⟩
        rw [put_put]
        have hs2 := fmod_in (s * 40014 + v.fmod 2147483549 * 31 + 11) (show (0 : Int) < 2147483647 by decide)
        exact pull_tail b m h ns (i + 1) g _ c hm hz ⟨b1, by omega, by omega, b4, hs2.1, hs2.2, b7⟩ _ N hN
    · exact pull_tail b m h ns i g s c hm hz B0 _ N hN
  · refine iteF ?_
    exact pull_tail b m h ns i g s c hm hz B0 _ N hN
theorem len_law_pull (ds : List D) (h : GH) (P : GP) (hs : S_law_pull ds h P) : ds.length = 2 := by obtain ⟨a, b, rfl, _⟩ := hs; rfl
/-- the same domain -/
theorem Step.dom {h h1 : GH} {H : Hp} (e : ∀ a, h a = none → h1 a = none) : Step h H h1 H := ⟨fun _ _ _ _ q => q, fun a z => .inl fun y => z (e a y)⟩
theorem put_none {h : GH} {b : Addr} {g : GO} (e : h b ≠ none) (a : Addr) : h a = none ↔ put h b g a = none := by
  by_cases z : a = b
  · subst z
    rw [put_same]
    exact ⟨fun y => absurd y e, fun y => nomatch y⟩
  · rw [put_ne z]
theorem Dvs.ints {K : Fg} {h : GH} {H : Hp} : ∀ ns : List Int, Dvs K h H (ns.map V.int) (ns.map D.int)
  | [] => .nil
  | n :: r => .cons (.int n) (Dvs.ints r)
theorem Dvs.of_ints {K : Fg} {h : GH} {H : Hp} : ∀ {ns : List Int} {vs : List V}, Dvs K h H vs (ns.map D.int) → vs = ns.map V.int
  | [], _, k => by cases k; rfl
  | n :: r, _, k => by
    cases k with
    | cons a t =>
      cases a
      rw [Dvs.of_ints t]
      rfl
/-- the bag is opened -/
theorem bag_open {K : Fg} {h : GH} {H : Hp} {b : Addr} (re : Rel K h H) (e : h b = some .bag) : ∃ ns i g s c, BagIn ns i g s c ∧ Rel K (put h b (bagL ns i g s c)) H := by
  obtain ⟨l, ns, i, g, s, c, q, nl, ql, r⟩ := re b _ e
  refine ⟨ns, i, g, s, c, r, fun a u z => ?_⟩
  have st : Step h H (put h b (bagL ns i g s c)) H := Step.dom fun a y => (put_none (by rw [e]; simp) a).mp y
  by_cases hb : a = b
  · subst hb
    rw [put_same] at z
    cases z
    refine ⟨_, q, .cons (.lst (st.free nl ql) ql (Dvs.ints ns)) (.cons (.int i) (.cons (.int g) (.cons (.int s) (.cons (.int c) .nil))))⟩
  · rw [put_ne hb] at z
    exact (re a u z).mono st fun o q => q
/-- the bag is shut -/
theorem bag_shut {K : Fg} {h : GH} {H : Hp} {b : Addr} {ns : List Int} {i g s c : Int} (e : h b = some .bag) (B : BagIn ns i g s c) (re : Rel K (put h b (bagL ns i g s c)) H) : Rel K h H := fun a u z => by
  have st : Step (put h b (bagL ns i g s c)) H h H := Step.dom fun a y => (put_none (by rw [e]; simp) a).mpr y
  by_cases hb : a = b
  · subst hb
    rw [e] at z
    cases z
    obtain ⟨xs, q, rs⟩ := re a _ put_same
    cases rs with
    | cons a1 r =>
      cases a1 with
      | lst nl ql rl =>
        cases r with
        | cons a2 r =>
          cases a2
          cases r with
          | cons a3 r =>
            cases a3
            cases r with
            | cons a4 r =>
              cases a4
              cases r with
              | cons a5 r =>
                cases a5
                cases r
                have := Dvs.of_ints rl
                subst this
                exact ⟨_, ns, i, g, s, c, q, st.free nl ql, ql, B⟩
  · exact (re a u (by rw [put_ne hb]; exact z)).mono st fun o q => q
section
variable {P : Program} {w : World} {K : Fg} {mg : Str → Option Value} {base : Heap}
/-- the def that draws -/
theorem gfun_pull {st : Stmt} {f : Addr} {fd : FuncData} {k : Nat} (F : Fun K "_law_pull" "_law_pull" st f fd) (hm : mg "_law_pull" = some (.ref f)) (b : Binds K fd ["_law_bag_here", "_law_many"] []) (sc : FnScope ["_law_bag_here", "_law_many", "_law_cell", "_law_digit", "_law_seed"] ["_law_bag_here", "_law_many"] (defScope st))
    (hd : ∀ (cdv : Value) (A : Around) (outer : List Env) (s : Shared) (H : Hp) (E : XK), Room k (A.deeper (PyProof.Rows.envOfC "_law_pull" (defScope st) s.heap.objs.size f cdv)) → PSs (cxOf CX0 P w K mg base ["_law_bag_here", "_law_many", "_law_cell", "_law_digit", "_law_seed"] "_law_pull" (defScope st) f cdv A outer s H E).nox (defBody st) (gS K AN.top g_law_pull)) :
    Fc P w K mg base (k + 1) "_law_pull" S_law_pull := by
  refine ⟨f, ?_, hm, F.kp⟩
  have ok : FnOk P w K mg base CX0 (k + 1) f fd ["_law_bag_here", "_law_many"] (GSP K S_law_pull) := by
    refine F.ok sc (fun vs H Q E ⟨ds, h, P, re, dv, s, _⟩ => by rw [dv.length]; exact len_law_pull _ _ _ s) (fun cdv A outer s H vs Q E hr ⟨ds, h, P, re, dv, ⟨bb, m, e1, e2, h0, hz, hp⟩, kk⟩ => ⟨_, hd cdv A outer s H E hr, ?_⟩)
    subst e1
    obtain ⟨ns, i, g, sa, c, B, re1⟩ := bag_open re e2
    have st : Step h H (put h bb (bagL ns i g sa c)) H := Step.dom fun a y => (put_none (by rw [e2]; simp) a).mp y
    refine ⟨[some (.ref bb), some (.int m), none, none, none], put h bb (bagL ns i g sa c), { nx := fun _ _ => False, rt := fun d h' => ∃ i g s c k, BagIn ns i g s c ∧ 0 ≤ k ∧ k < m ∧ d = .int k ∧ h' = put h bb (bagL ns i g s c) }, re1, (Sl.begin dv trivial).mono st, pure_law_pull0 bb m h ns i g sa c h0 hz B _ fun i g s c k B' k0 k1 => ⟨i, g, s, c, k, B', k0, k1, rfl, rfl⟩, fun _ _ _ _ _ _ _ z => z.elim, fun v H' d h' st1 re' dv' p => ?_, fun _ _ _ _ _ _ _ z => z.elim, fun _ _ _ _ _ _ _ z => z.elim⟩
    obtain ⟨i', g', s', c', k', B', k0, k1, rfl, rfl⟩ := p
    have st2 : Step (put h bb (bagL ns i' g' s' c')) H' h H' := Step.dom fun a y => (put_none (by rw [e2]; simp) a).mpr y
    cases dv'
    exact kk _ H' _ h ((st.trans st1).trans st2) (bag_shut e2 B' re') (.int _) (hp _ k0 k1)
  exact (ok.raw b .nil).imp fun vs H Q E q => by rw [List.append_nil]; exact q
end
end Gh

set_option maxHeartbeats 1000000
namespace Gh
open PySem L2
/-! ## comprehensions, loops -/
inductive F2 {α β : Type} (R : α → β → Prop) : List α → List β → Prop
  | nil : F2 R [] []
  | cons {a : α} {b : β} {as : List α} {bs : List β} : R a b → F2 R as bs → F2 R (a :: as) (b :: bs)
theorem F2.length {α β : Type} {R : α → β → Prop} : ∀ {as : List α} {bs : List β}, F2 R as bs → as.length = bs.length
  | _, _, .nil => rfl
  | _, _, .cons _ r => by rw [List.length_cons, List.length_cons, F2.length r]
theorem F2.map_eq {α β : Type} {f : α → β} : ∀ {as : List α} {bs : List β}, F2 (fun a b => b = f a) as bs → bs = as.map f
  | _, _, .nil => rfl
  | _, _, .cons e r => by rw [List.map_cons, e, F2.map_eq r]
theorem F2.all {α β : Type} {R : α → β → Prop} {Q : β → Prop} (h : ∀ a b, R a b → Q b) : ∀ {as : List α} {bs : List β}, F2 R as bs → ∀ b ∈ bs, Q b
  | _, _, .nil, _, hb => nomatch hb
  | _, _, .cons e r, b, hb => by
    rcases List.mem_cons.mp hb with z | z
    · subst z; exact h _ _ e
    · exact F2.all h r b z
theorem put_old {h : GH} {p b : Addr} {g g' : GO} (n : h p = none) (e : h b = some g) : put h p g' b = some g := by
  rw [put_ne (fun z => by subst z; rw [n] at e; cases e)]
  exact e
theorem vw_put {h : GH} {p : Addr} {g : GO} {a d : D} (n : h p = none) (e : vw h a = d) (hd : ∀ q, d ≠ .ref q) : vw (put h p g) a = d := by
  cases a with
  | ref q =>
    by_cases z : q = p
    · subst z
      exfalso
      refine hd q ?_
      rw [← e]
      simp only [vw, n]
    · have : put h p g q = h q := put_ne z
      simp only [vw, this] at e ⊢
      exact e
  | _ => exact e
theorem comp_rel {i : Nat} {ge : gTE} {s : GS} {p : Addr} {P : List D → GH → Prop} {R : D → D → Prop} {h : GH} (n : h p = none) : ∀ (ds acc : List D),
    (∀ d ∈ ds, ∀ acc Q, (∀ y, R d y → Q y (put h p (.lst acc))) → ge (s.set i (some d)) (put h p (.lst acc)) Q) → acc.length + ds.length ≤ sizeLine → (∀ ys, F2 R ds ys → P (acc ++ ys) h) → gComp (tgName i) gYes ge s p P ds acc (put h p (.lst acc))
  | [], acc, _, _, k => by
    show P acc (del (put h p (.lst acc)) p)
    rw [put_del n]
    have := k [] .nil
    rwa [List.append_nil] at this
  | d :: r, acc, he, hz, k => by
    refine he d List.mem_cons_self acc _ fun y hy => ⟨by rw [List.length_cons] at hz; omega, put_same, ?_⟩
    rw [put_put]
    refine comp_rel n r (acc ++ [y]) (fun d' hd' => he d' (List.mem_cons_of_mem _ hd')) (by rw [List.length_append, List.length_singleton]; rw [List.length_cons] at hz; omega) fun ys hys => ?_
    rw [List.append_assoc]
    exact k (y :: ys) (.cons hy hys)
/-- a comprehension with a test -/
theorem comp_relIf {i : Nat} {ge : gTE} {gc : gTT} {s : GS} {p : Addr} {P : List D → GH → Prop} {R : D → D → Prop} {t : D → Bool} {h : GH} (n : h p = none) : ∀ (ds acc : List D),
    (∀ d ∈ ds, ∀ acc Q, Q (t d) (put h p (.lst acc)) → gc (s.set i (some d)) (put h p (.lst acc)) Q) →
    (∀ d ∈ ds, t d = true → ∀ acc Q, (∀ y, R d y → Q y (put h p (.lst acc))) → ge (s.set i (some d)) (put h p (.lst acc)) Q) → acc.length + ds.length ≤ sizeLine → (∀ ys, F2 R (ds.filter t) ys → P (acc ++ ys) h) → gComp (tgName i) gc ge s p P ds acc (put h p (.lst acc))
  | [], acc, _, _, _, k => by
    show P acc (del (put h p (.lst acc)) p)
    rw [put_del n]
    have := k [] .nil
    rwa [List.append_nil] at this
  | d :: r, acc, hc, he, hz, k => by
    refine hc d List.mem_cons_self acc _ ?_
    cases ht : t d with
    | true =>
      refine iteT (he d List.mem_cons_self ht acc _ fun y hy => ⟨by rw [List.length_cons] at hz; omega, put_same, ?_⟩)
      rw [put_put]
      refine comp_relIf n r (acc ++ [y]) (fun d' hd' => hc d' (List.mem_cons_of_mem _ hd')) (fun d' hd' => he d' (List.mem_cons_of_mem _ hd')) (by rw [List.length_append, List.length_singleton]; rw [List.length_cons] at hz; omega) fun ys hys => ?_
      rw [List.append_assoc]
      refine k (y :: ys) ?_
      rw [List.filter_cons, if_pos ht]
      exact .cons hy hys
    | false =>
      refine iteF ⟨put_same, ?_⟩
      refine comp_relIf n r acc (fun d' hd' => hc d' (List.mem_cons_of_mem _ hd')) (fun d' hd' => he d' (List.mem_cons_of_mem _ hd')) (by rw [List.length_cons] at hz; omega) fun ys hys => ?_
      refine k ys ?_
      rw [List.filter_cons, if_neg (by rw [ht]; exact Bool.false_ne_true)]
      exact hys
/-! ## the same data -/
def okD : Nat → D → Prop
  | _, .non => True
  | _, .bl _ => True
  | _, .int _ => True
  | _, .str _ => True
  | n + 1, .tup ds => ds.length ≤ sizeLine ∧ ∀ x ∈ ds, okD n x
  | n + 1, .lst ds => ds.length ≤ sizeLine ∧ ∀ x ∈ ds, okD n x
  | _, _ => False
def S_law_same (n : Nat) : GSpec := fun ds h P => ∃ a b d, ds = [a, b] ∧ vw h a = d ∧ vw h b = d ∧ okD n d ∧ P (.bl true) h
def S_prev (S : Nat → GSpec) : Nat → GSpec
  | 0 => fun _ _ _ => False
  | n + 1 => S n
theorem isN_vw {h : GH} {a d : D} (e : vw h a = d) : isN a = isN d := by
  subst e
  cases a with
  | ref p =>
    cases z : h p with
    | none => simp only [vw, z]
    | some g => cases g <;> simp only [vw, z] <;> rfl
  | _ => rfl
theorem kt1 : kitB "list" "list" = some true := by decide +kernel
theorem kt2 : kitB "list" "tuple" = some false := by decide +kernel
theorem kt3 : kitB "tuple" "list" = some false := by decide +kernel
theorem kt4 : kitB "tuple" "tuple" = some true := by decide +kernel
theorem kt5 : kitB "bool" "list" = some false := by decide +kernel
theorem kt6 : kitB "bool" "tuple" = some false := by decide +kernel
theorem kt7 : kitB "int" "list" = some false := by decide +kernel
theorem kt8 : kitB "int" "tuple" = some false := by decide +kernel
theorem kt9 : kitB "str" "list" = some false := by decide +kernel
theorem kt10 : kitB "str" "tuple" = some false := by decide +kernel
theorem kt11 : kitB "bool" "bool" = some true := by decide +kernel
theorem kt12 : kitB "bool" "int" = some true := by decide +kernel
theorem kt13 : kitB "bool" "str" = some false := by decide +kernel
theorem kt14 : kitB "int" "bool" = some false := by decide +kernel
theorem kt15 : kitB "int" "int" = some true := by decide +kernel
theorem kt16 : kitB "int" "str" = some false := by decide +kernel
theorem kt17 : kitB "str" "bool" = some false := by decide +kernel
theorem kt18 : kitB "str" "int" = some false := by decide +kernel
theorem kt19 : kitB "str" "str" = some true := by decide +kernel
theorem isi_of {h : GH} {a d : D} {n t : String} {r : Bool} (e : vw h a = d) (et : tyN d = some t) (ek : kitB t n = some r) : RIsi h [a, .ty n] (.bl r) := ⟨a, n, t, r, rfl, by rw [e]; exact et, ek, rfl⟩
theorem isi2_of {h : GH} {a d : D} {n m t : String} {r1 r2 : Bool} (e : vw h a = d) (et : tyN d = some t) (e1 : kitB t n = some r1) (e2 : kitB t m = some r2) : RIsi2 n m h a (.bl (r1 || r2)) := ⟨t, r1, r2, by rw [e]; exact et, e1, e2, rfl⟩
theorem eq_bl {h : GH} {neg a b : Bool} : REq neg h (.bl a) (.bl b) (.bl (if neg then !(a == b) else (a == b))) := ⟨_, _, rfl, rfl, rfl, rfl, rfl⟩
theorem len_of {h : GH} {a : D} {ds : List D} (e : vw h a = .lst ds ∨ vw h a = .tup ds) : RLen h [a] (.int (ds.length : Nat)) := by
  refine ⟨a, rfl, ?_⟩
  rcases e with e | e <;> rw [e]
theorem ix_of {h : GH} {a : D} {ds : List D} {i : Int} {c : D} (e : vw h a = .lst ds ∨ vw h a = .tup ds) (hc : atI ds i = some c) : RIx h a (.int i) c := by
  unfold RIx
  rcases e with e | e <;> rw [e] <;> exact hc
def g_law_same (S' : GSpec) : gTS := (sSeq (sIf (gOr (gB (gUn (RIsN false) (gVar 1))) (gB (gUn (RIsN false) (gVar 0))))
  (sRet (gAndV (gUn (RIsN false) (gVar 0)) (gUn (RIsN false) (gVar 1))))
  sNext)
 (sSeq (sIf (gB (gUn (RIsi2 "list" "tuple") (gVar 1)))
  (sSeq (sIf (gOr (gB (gBin (REq true) (gCB RIsi (aCons (gVar 0) (aCons (gC (.ty "list")) aNil))) (gCB RIsi (aCons (gVar 1) (aCons (gC (.ty "list")) aNil))))) (gB (gBin (REq true) (gCB RIsi (aCons (gVar 0) (aCons (gC (.ty "tuple")) aNil))) (gCB RIsi (aCons (gVar 1) (aCons (gC (.ty "tuple")) aNil))))))
  (sRet (gC (.bl false)))
  sNext)
 (sRet (gAndV (gBin (REq false) (gCB RLen (aCons (gVar 0) aNil)) (gCB RLen (aCons (gVar 1) aNil))) (gCB (RAll false) (aCons (gFr (fLc (iRg1 (aCons (gCB RLen (aCons (gVar 1) aNil)) aNil)) (tgName 2) gYes (gCall S' (aCons (gBin RIx (gVar 0) (gVar 2)) (aCons (gBin RIx (gVar 1) (gVar 2)) aNil))) [2])) aNil)))))
  sNext)
 (sSeq (sIf (gOr (gB (gBin (REq true) (gCB RIsi (aCons (gVar 1) (aCons (gC (.ty "bool")) aNil))) (gCB RIsi (aCons (gVar 0) (aCons (gC (.ty "bool")) aNil))))) (gB (gBin (REq true) (gCB RIsi (aCons (gVar 1) (aCons (gC (.ty "int")) aNil))) (gCB RIsi (aCons (gVar 0) (aCons (gC (.ty "int")) aNil))))))
  (sRet (gC (.bl false)))
  sNext)
 (sRet (gAndV (gBin (REq false) (gCB RIsi (aCons (gVar 1) (aCons (gC (.ty "str")) aNil))) (gCB RIsi (aCons (gVar 0) (aCons (gC (.ty "str")) aNil)))) (gBin (REq false) (gVar 0) (gVar 1)))))))
theorem un_isN {h : GH} {a : D} {b : Bool} (e : isN a = b) : RIsN false h a (.bl b) := by
  subst e
  rfl
theorem bls_true : ∀ {α : Type} (l : List α), bls (l.map fun _ => D.bl true) = some (l.map fun _ => true)
  | _, [] => rfl
  | _, a :: r => by
    show (bls (r.map fun _ => D.bl true)).map (true :: ·) = _
    rw [bls_true r]
    rfl
theorem same_seq {n : Nat} {a b : D} {xs : List D} {h : GH} {P : GP} {N : GEnds} (h2 : (vw h a = .lst xs ∧ vw h b = .lst xs) ∨ (vw h a = .tup xs ∧ vw h b = .tup xs)) (hz : xs.length ≤ sizeLine) (ho : ∀ x ∈ xs, okD n x) (hN : N.rt (.bl true) h) :
    (sRet (gAndV (gBin (REq false) (gCB RLen (aCons (gVar 0) aNil)) (gCB RLen (aCons (gVar 1) aNil))) (gCB (RAll false) (aCons (gFr (fLc (iRg1 (aCons (gCB RLen (aCons (gVar 1) aNil)) aNil)) (tgName 2) gYes (gCall (S_law_same n) (aCons (gBin RIx (gVar 0) (gVar 2)) (aCons (gBin RIx (gVar 1) (gVar 2)) aNil))) [2])) aNil)))) N [some a, some b, none] h := by
  have ha : vw h a = .lst xs ∨ vw h a = .tup xs := h2.elim (fun z => .inl z.1) (fun z => .inr z.1)
  have hb : vw h b = .lst xs ∨ vw h b = .tup xs := h2.elim (fun z => .inl z.2) (fun z => .inr z.2)
  have hs : sizeLine = 16777216 := sizeLine_eq
  refine ⟨_, rfl, _, len_of ha, _, rfl, _, len_of hb, _, rfl, _, rfl, ?_⟩
  refine ite2 (fun _ => ?_) (fun c => absurd (decide_eq_true rfl) c)
  refine ⟨_, rfl, _, len_of hb, _, rfl, ⟨by omega, by omega⟩, fun p hp => ?_⟩
  have ha2 : ∀ g, vw (put h p g) a = .lst xs ∨ vw (put h p g) a = .tup xs := fun g => ha.elim (fun z => .inl (vw_put hp z (fun _ q => nomatch q))) (fun z => .inr (vw_put hp z (fun _ q => nomatch q)))
  have hb2 : ∀ g, vw (put h p g) b = .lst xs ∨ vw (put h p g) b = .tup xs := fun g => hb.elim (fun z => .inl (vw_put hp z (fun _ q => nomatch q))) (fun z => .inr (vw_put hp z (fun _ q => nomatch q)))
  refine comp_rel (R := fun _ y => y = .bl true) hp _ [] (fun d hd acc Q hq => ?_) (by rw [rangeD_length, List.length_nil]; omega) fun ys hys => ?_
  · obtain ⟨i, hi, rfl⟩ : ∃ i : Nat, i < xs.length ∧ d = .int (0 + (i : Nat)) := by
      obtain ⟨i, hi⟩ := List.mem_iff_getElem?.mp hd
      have := rangeD_get hi
      exact ⟨i, by have := this.1; omega, this.2⟩
    have hx : atI xs (0 + (i : Nat)) = some xs[i] := by
      rw [Int.zero_add]
      exact atI_nat (List.getElem?_eq_getElem hi)
    have hox := ho xs[i] (List.getElem_mem hi)
    refine ⟨_, rfl, _, rfl, _, ix_of (ha2 _) hx, _, rfl, _, rfl, _, ix_of (hb2 _) hx, _, _, vw (put h p (.lst acc)) xs[i], rfl, rfl, rfl, ?_, hq _ rfl⟩
    cases hxi : xs[i] with
    | ref q => rw [hxi] at hox; cases n <;> exact hox.elim
    | _ => rw [hxi] at hox; exact hox
  · have e := F2.map_eq hys
    subst e
    rw [List.nil_append]
    refine ⟨_, ⟨_, _, _, rfl, rfl, bls_true _, rfl⟩, .inl ?_⟩
    have : ∀ l : List D, ((l.map fun _ => true).all id) = true := fun l => by
      rw [List.all_eq_true]
      intro x hx
      obtain ⟨_, _, rfl⟩ := List.mem_map.mp hx
      rfl
    show N.rt (.bl ((List.map (fun _ => true) _).all id)) h
    rw [this]
    exact hN
theorem pure_law_same (n : Nat) (ds : List D) (h : GH) (P : GP) (hs : S_law_same n ds h P) : g_law_same (S_prev S_law_same n) { nx := fun _ h' => P .non h', rt := P } (startG ["_law_found", "_law_due", "_law_k"] ds) h := by
  obtain ⟨a, b, d, rfl, ea, eb, ho, hp⟩ := hs
  show g_law_same _ _ [some a, some b, none] h
  have ia := isN_vw ea
  have ib := isN_vw eb
  cases d with
  | non =>
    refine ⟨_, rfl, _, un_isN ib, _, rfl, ?_⟩
    refine iteT (iteT ?_)
    refine ⟨_, rfl, _, un_isN ia, _, rfl, ?_⟩
    refine iteT ⟨_, rfl, _, un_isN ib, .inl hp⟩
  | ref p => cases n <;> exact ho.elim
  | ty p => cases n <;> exact ho.elim
  | fro p => cases n <;> exact ho.elim
  | bl x =>
    refine ⟨_, rfl, _, un_isN ib, _, rfl, iteF ⟨_, rfl, _, un_isN ia, _, rfl, iteF ?_⟩⟩
    refine ⟨_, rfl, _, isi2_of eb rfl kt5 kt6, _, rfl, iteF ?_⟩
    refine ⟨_, rfl, _, isi_of eb rfl kt11, _, rfl, _, isi_of ea rfl kt11, _, eq_bl, _, rfl, iteF ⟨_, rfl, _, isi_of eb rfl kt12, _, rfl, _, isi_of ea rfl kt12, _, eq_bl, _, rfl, iteF ?_⟩⟩
    refine ⟨_, rfl, _, isi_of eb rfl kt13, _, rfl, _, isi_of ea rfl kt13, _, eq_bl, _, rfl, iteT ⟨_, rfl, _, rfl, .bl true, ?_, .inl hp⟩⟩
    unfold REq
    rw [ea, eb]
    exact ⟨_, _, rfl, rfl, rfl, rfl, by cases x <;> rfl⟩
  | int x =>
    refine ⟨_, rfl, _, un_isN ib, _, rfl, iteF ⟨_, rfl, _, un_isN ia, _, rfl, iteF ?_⟩⟩
    refine ⟨_, rfl, _, isi2_of eb rfl kt7 kt8, _, rfl, iteF ?_⟩
    refine ⟨_, rfl, _, isi_of eb rfl kt14, _, rfl, _, isi_of ea rfl kt14, _, eq_bl, _, rfl, iteF ⟨_, rfl, _, isi_of eb rfl kt15, _, rfl, _, isi_of ea rfl kt15, _, eq_bl, _, rfl, iteF ?_⟩⟩
    refine ⟨_, rfl, _, isi_of eb rfl kt16, _, rfl, _, isi_of ea rfl kt16, _, eq_bl, _, rfl, iteT ⟨_, rfl, _, rfl, .bl true, ?_, .inl hp⟩⟩
    unfold REq
    rw [ea, eb]
    simp
  | str x =>
    refine ⟨_, rfl, _, un_isN ib, _, rfl, iteF ⟨_, rfl, _, un_isN ia, _, rfl, iteF ?_⟩⟩
    refine ⟨_, rfl, _, isi2_of eb rfl kt9 kt10, _, rfl, iteF ?_⟩
    refine ⟨_, rfl, _, isi_of eb rfl kt17, _, rfl, _, isi_of ea rfl kt17, _, eq_bl, _, rfl, iteF ⟨_, rfl, _, isi_of eb rfl kt18, _, rfl, _, isi_of ea rfl kt18, _, eq_bl, _, rfl, iteF ?_⟩⟩
    refine ⟨_, rfl, _, isi_of eb rfl kt19, _, rfl, _, isi_of ea rfl kt19, _, eq_bl, _, rfl, iteT ⟨_, rfl, _, rfl, .bl true, ?_, .inl hp⟩⟩
    unfold REq
    rw [ea, eb]
    simp
  | tup xs =>
    cases n with
    | zero => exact ho.elim
    | succ n =>
      refine ⟨_, rfl, _, un_isN ib, _, rfl, iteF ⟨_, rfl, _, un_isN ia, _, rfl, iteF ?_⟩⟩
      refine ⟨_, rfl, _, isi2_of eb rfl kt3 kt4, _, rfl, iteT ?_⟩
      refine ⟨_, rfl, _, isi_of ea rfl kt3, _, rfl, _, isi_of eb rfl kt3, _, eq_bl, _, rfl, iteF ⟨_, rfl, _, isi_of ea rfl kt4, _, rfl, _, isi_of eb rfl kt4, _, eq_bl, _, rfl, iteF ?_⟩⟩
      exact same_seq (P := P) (.inr ⟨ea, eb⟩) ho.1 ho.2 hp
  | lst xs =>
    cases n with
    | zero => exact ho.elim
    | succ n =>
      refine ⟨_, rfl, _, un_isN ib, _, rfl, iteF ⟨_, rfl, _, un_isN ia, _, rfl, iteF ?_⟩⟩
      refine ⟨_, rfl, _, isi2_of eb rfl kt1 kt2, _, rfl, iteT ?_⟩
      refine ⟨_, rfl, _, isi_of ea rfl kt1, _, rfl, _, isi_of eb rfl kt1, _, eq_bl, _, rfl, iteF ⟨_, rfl, _, isi_of ea rfl kt2, _, rfl, _, isi_of eb rfl kt2, _, eq_bl, _, rfl, iteF ?_⟩⟩
      exact same_seq (P := P) (.inl ⟨ea, eb⟩) ho.1 ho.2 hp
theorem len_law_same (n : Nat) (ds : List D) (h : GH) (P : GP) (hs : S_law_same n ds h P) : ds.length = 2 := by obtain ⟨a, b, _, rfl, _⟩ := hs; rfl
end Gh

set_option maxHeartbeats 1000000
namespace Gh
open PySem L2
/-! ## fractions -/
def isLow (p : Int × Int) : Prop := 0 < p.2 ∧ Int.gcd p.1 p.2 = 1
def Bf (B : Nat) (p : Int × Int) : Prop := 0 < p.2 ∧ p.1.natAbs < 2 ^ B ∧ p.2.natAbs < 2 ^ B
theorem low_low {a b : Int} (hb : 0 < b) : isLow (low a b) := by
  have hg := Int.gcd_pos_of_ne_zero_right a (show b ≠ 0 by omega)
  refine ⟨?_, Int.gcd_ediv_gcd_ediv_gcd hg⟩
  have hd := Int.gcd_dvd_right a b
  obtain ⟨c, hc⟩ := hd
  show 0 < b / (Int.gcd a b : Nat)
  generalize hgg : ((Int.gcd a b : Nat) : Int) = g at *
  rw [hc, Int.mul_ediv_cancel_left _ (by omega)]
  have hg0 : 0 < g := by omega
  rw [hc] at hb
  exact Int.pos_of_mul_pos_right hb (by omega)
theorem low_self {p : Int × Int} (h : isLow p) : low p.1 p.2 = p := by
  unfold low
  rw [h.2]
  show (p.1 / 1, p.2 / 1) = p
  rw [Int.ediv_one, Int.ediv_one]
theorem ediv_natAbs_le (a : Int) (g : Nat) : (a / (g : Nat)).natAbs ≤ a.natAbs := by
  exact Int.natAbs_ediv_le_natAbs a g
theorem low_bits {a b : Int} {k : Nat} (hb : 0 < b) (h1 : a.natAbs < 2 ^ k) (h2 : b.natAbs < 2 ^ k) : Bf k (low a b) :=
  ⟨(low_low hb).1, Nat.lt_of_le_of_lt (ediv_natAbs_le _ _) h1, Nat.lt_of_le_of_lt (ediv_natAbs_le _ _) h2⟩
def addF (p q : Int × Int) : Int × Int := low (p.1 * q.2 + q.1 * p.2) (p.2 * q.2)
def mulF (p q : Int × Int) : Int × Int := low (p.1 * q.1) (p.2 * q.2)
def sumF (ps : List (Int × Int)) : Int × Int := ps.foldl addF (0, 1)
def prodF (ps : List (Int × Int)) : Int × Int := ps.foldl mulF (1, 1)

theorem mulW {i j : Int} {a b : Nat} (ha : i.natAbs < 2 ^ a) (hb : j.natAbs < 2 ^ b) (h0 : 0 < a) (h1 : 0 < b) (h : a + b ≤ 1000000) : CMul i j ∨ CMulW i j := .inr (wide_mul ha hb h0 h1 h)
theorem mul_bits {i j : Int} {a b : Nat} (ha : i.natAbs < 2 ^ a) (hb : j.natAbs < 2 ^ b) : (i * j).natAbs < 2 ^ (a + b) := wide_lt ha hb
theorem add_bits {i j : Int} {a : Nat} (ha : i.natAbs < 2 ^ a) (hb : j.natAbs < 2 ^ a) : (i + j).natAbs < 2 ^ (a + 1) := by
  have := Int.natAbs_add_le i j
  rw [Nat.pow_succ]
  omega
theorem addF_bits {X B : Nat} {p q : Int × Int} (hp : Bf X p) (hq : Bf B q) : Bf (X + B + 1) (addF p q) := by
  refine low_bits (Int.mul_pos hp.1 hq.1) ?_ ?_
  · refine add_bits (mul_bits hp.2.1 hq.2.2) ?_
    rw [Nat.add_comm X B]
    exact mul_bits hq.2.1 hp.2.2
  · exact lt_pow_mono (mul_bits hp.2.2 hq.2.2) (by omega)
theorem mulF_bits {X B : Nat} {p q : Int × Int} (hp : Bf X p) (hq : Bf B q) : Bf (X + B + 1) (mulF p q) :=
  low_bits (Int.mul_pos hp.1 hq.1) (lt_pow_mono (mul_bits hp.2.1 hq.2.1) (by omega)) (lt_pow_mono (mul_bits hp.2.2 hq.2.2) (by omega))
theorem Bf.mono {a b : Nat} {p : Int × Int} (h : Bf a p) (hab : a ≤ b) : Bf b p := ⟨h.1, lt_pow_mono h.2.1 hab, lt_pow_mono h.2.2 hab⟩
/-! the defs of the program -/
def red (n d : Int) : Int × Int := if d < 0 then low (-n) (-d) else low n d
def S_reduced : GSpec := fun ds h P => ∃ n d : Int, ds = [.int n, .int d] ∧ d ≠ 0 ∧ d.natAbs < 2 ^ 9000 ∧ P (fr (red n d)) h
def g_reduced : gTS := (sSeq (sIf (gB (gBin (REq false) (gVar 1) (gC (.int 0))))
  sNever
  sNext)
 (sSeq (sSet 2 (gCall S_law_gcd (aCons (gVar 0) (aCons (gVar 1) aNil))))
 (sSeq (sIf (gB (gBin (RCmp fun i j => decide (i < j)) (gVar 1) (gC (.int 0))))
  (sSet 2 (gUn RNeg (gVar 2)))
  sNext)
 (sRet (gTup (aCons (gBin RFdiv (gVar 0) (gVar 2)) (aCons (gBin RFdiv (gVar 1) (gVar 2)) aNil)))))))
theorem pure_reduced (ds : List D) (h : GH) (P : GP) (hs : S_reduced ds h P) : g_reduced { nx := fun _ h' => P .non h', rt := P } (startG ["numerator", "denominator", "by"] ds) h := by
  obtain ⟨a, b, rfl, hb, hz, hp⟩ := hs
  have hg := gcd_div (a := a) hb hz
  refine ⟨_, rfl, _, rfl, _, rfl, ite2 (fun c => absurd (of_decide_eq_true c) hb) (fun _ => ?_)⟩
  refine ⟨_, rfl, _, rfl, a, b, rfl, ?_⟩
  refine ⟨_, rfl, _, rfl, _, rfl, ite2 (fun c => ?_) (fun c => ?_)⟩
  · have hn : b < 0 := of_decide_eq_true c
    refine ⟨_, rfl, _, rfl, ?_⟩
    have hg' : (-((Int.gcd a b : Nat) : Int)) ≠ 0 ∧ (-((Int.gcd a b : Nat) : Int)).natAbs.log2 < 9000 := ⟨by omega, by rw [Int.natAbs_neg]; exact hg.2⟩
    refine ⟨_, rfl, _, rfl, _, ⟨hg', rfl⟩, _, rfl, _, rfl, _, ⟨hg', rfl⟩, two_le, .inl ?_⟩
    have e : red a b = (a.fdiv (-((Int.gcd a b : Nat) : Int)), b.fdiv (-((Int.gcd a b : Nat) : Int))) := by
      unfold red low
      rw [if_pos hn, Int.gcd_neg, Int.neg_gcd]
      have q : ∀ x : Int, x.fdiv (-((Int.gcd a b : Nat) : Int)) = -x / ((Int.gcd a b : Nat) : Int) := fun x => by
        have := Int.neg_fdiv_neg (-x) ((Int.gcd a b : Nat) : Int)
        rw [Int.neg_neg] at this
        rw [this, Int.fdiv_eq_ediv_of_nonneg _ (by omega)]
      rw [q, q]
    rw [e] at hp
    exact hp
  · have hn : ¬ b < 0 := fun z => c (decide_eq_true z)
    refine ⟨_, rfl, _, rfl, _, ⟨hg, rfl⟩, _, rfl, _, rfl, _, ⟨hg, rfl⟩, two_le, .inl ?_⟩
    have e : red a b = (a.fdiv ((Int.gcd a b : Nat) : Int), b.fdiv ((Int.gcd a b : Nat) : Int)) := by
      unfold red low
      rw [if_neg hn, Int.fdiv_eq_ediv_of_nonneg _ (by omega), Int.fdiv_eq_ediv_of_nonneg _ (by omega)]
    rw [e] at hp
    exact hp
theorem len_reduced (ds : List D) (h : GH) (P : GP) (hs : S_reduced ds h P) : ds.length = 2 := by obtain ⟨a, b, rfl, _⟩ := hs; rfl
theorem red_pos {n d : Int} (h : 0 < d) : red n d = low n d := if_neg (by omega)
/-- parts[0], parts[1] -/
theorem ix0 {h : GH} {p : Int × Int} : RIx h (fr p) (.int 0) (.int p.1) := rfl
theorem ix1 {h : GH} {p : Int × Int} : RIx h (fr p) (.int 1) (.int p.2) := rfl
def S_total : GSpec := fun ds h P => ∃ (ps : List (Int × Int)) (B : Nat), (ds = [.lst (ps.map fr)] ∨ ds = [.tup (ps.map fr)]) ∧ 0 < B ∧ (∀ p ∈ ps, Bf B p) ∧ (ps.length + 1) * (B + 2) ≤ 4000 ∧ P (fr (sumF ps)) h
def b_total : gTS := (sSeq (sSet 1 (gBin RAdd (gBin RMul (gVar 1) (gBin RIx (gVar 3) (gC (.int 1)))) (gBin RMul (gBin RIx (gVar 3) (gC (.int 0))) (gVar 2))))
 (sSeq (sSet 2 (gBin RMul (gVar 2) (gBin RIx (gVar 3) (gC (.int 1)))))
 (sAsg (gCall S_reduced (aCons (gVar 1) (aCons (gVar 2) aNil))) (tgTup 2 (tgCons (tgName 1) (tgCons (tgName 2) tgNil))))))
def g_total : gTS := (sSeq (sAsg (gTup (aCons (gC (.int 0)) (aCons (gC (.int 1)) aNil))) (tgTup 2 (tgCons (tgName 1) (tgCons (tgName 2) tgNil))))
 (sSeq (sFor (iSeq (gVar 0)) (tgName 3)
  b_total)
 (sRet (gTup (aCons (gVar 1) (aCons (gVar 2) aNil))))))
theorem total_loop {d : D} {h : GH} {N : GEnds} {B : Nat} (hB : 0 < B) : ∀ (ps : List (Int × Int)) (X : Nat) (a b : Int) (o : Option D), 0 < X → Bf X (a, b) → (∀ p ∈ ps, Bf B p) → X + ps.length * (B + 2) ≤ 4000 → (∀ o', N.nx [some d, some (.int (ps.foldl addF (a, b)).1), some (.int (ps.foldl addF (a, b)).2), o'] h) →
    gLoop (tgName 3) b_total N (ps.map fr) [some d, some (.int a), some (.int b), o] h
  | [], X, a, b, o, _, _, _, _, k => k o
  | p :: r, X, a, b, o, hX, hab, hp, hz, k => by
    have hpp := hp p List.mem_cons_self
    rw [List.length_cons, Nat.succ_mul] at hz
    have m1 := mul_bits hab.2.1 hpp.2.2
    have m2 := mul_bits hpp.2.1 hab.2.2
    have m3 := mul_bits hab.2.2 hpp.2.2
    show b_total _ [some d, some (.int a), some (.int b), some (fr p)] h
    refine ⟨_, rfl, _, rfl, _, ix1, _, ⟨mulW hab.2.1 hpp.2.2 hX hB (by omega), rfl⟩, _, rfl, _, ix0, _, rfl, _, ⟨mulW hpp.2.1 hab.2.2 hB hX (by omega), rfl⟩, _, rfl, ?_⟩
    refine ⟨_, rfl, _, rfl, _, ix1, _, ⟨mulW hab.2.2 hpp.2.2 hX hB (by omega), rfl⟩, ?_⟩
    have hd : 0 < b * p.2 := Int.mul_pos hab.1 hpp.1
    refine ⟨_, rfl, _, rfl, _, _, rfl, by omega, lt_pow_mono m3 (by omega), ?_⟩
    rw [red_pos hd]
    refine ⟨_, rfl, rfl, _, _, rfl, _, _, rfl, rfl, ?_⟩
    have e : low (a * p.2 + p.1 * b) (b * p.2) = addF (a, b) p := rfl
    rw [e]
    exact total_loop hB r (X + B + 1) (addF (a, b) p).1 (addF (a, b) p).2 _ (by omega) (addF_bits hab hpp) (fun q hq => hp q (List.mem_cons_of_mem _ hq)) (by omega) k
theorem one_bits {B : Nat} (h : 0 < B) : (1 : Int).natAbs < 2 ^ B := by
  show 1 < 2 ^ B
  exact Nat.one_lt_two_pow (by omega)
theorem zero_bits {B : Nat} : (0 : Int).natAbs < 2 ^ B := Nat.pow_pos (by decide)
theorem pure_total (ds : List D) (h : GH) (P : GP) (hs : S_total ds h P) : g_total { nx := fun _ h' => P .non h', rt := P } (startG ["parts", "numerator", "denominator", "part"] ds) h := by
  obtain ⟨ps, B, hd, hB, hp, hz, k⟩ := hs
  have go : ∀ d : D, (∀ Q : List D → GH → Prop, Q (ps.map fr) h → (match d with
  | .lst ds => Q ds h
  | .tup ds => Q ds h
  | .str x => Q (strD x) h
  | _ => False)) → g_total { nx := fun _ h' => P .non h', rt := P } [some d, none, none, none] h := fun d hq => by
    refine ⟨two_le, _, rfl, rfl, _, _, rfl, _, _, rfl, rfl, ?_⟩
    refine ⟨_, rfl, hq _ ?_⟩
    refine total_loop hB ps 1 0 1 none (by decide) ⟨by decide, zero_bits, one_bits (by decide)⟩ hp (by rw [Nat.succ_mul] at hz; omega) fun o' => ?_
    refine ⟨_, rfl, _, rfl, two_le, .inl k⟩
  rcases hd with rfl | rfl
  · exact go _ fun Q q => q
  · exact go _ fun Q q => q
theorem len_total (ds : List D) (h : GH) (P : GP) (hs : S_total ds h P) : ds.length = 1 := by obtain ⟨ps, B, rfl | rfl, _⟩ := hs <;> rfl
def S_plus : GSpec := fun ds h P => ∃ (ps : List (Int × Int)) (B : Nat), ds = ps.map fr ∧ 0 < B ∧ (∀ p ∈ ps, Bf B p) ∧ (ps.length + 1) * (B + 2) ≤ 4000 ∧ P (fr (sumF ps)) h
def g_plus : gTS := (sRet (gCall S_total (aCons (gVar 0) aNil)))
theorem pure_plus (ds : List D) (h : GH) (P : GP) (hs : S_plus ds h P) : g_plus { nx := fun _ h' => P .non h', rt := P } (startG ["parts"] [.tup ds]) h := by
  obtain ⟨ps, B, rfl, hB, hp, hz, k⟩ := hs
  exact ⟨_, rfl, ps, B, .inr rfl, hB, hp, hz, .inl k⟩
theorem len_plus (ds : List D) (h : GH) (P : GP) (hs : S_plus ds h P) : ds.length ≤ sizeLine := by
  obtain ⟨ps, B, rfl, hB, hp, hz, k⟩ := hs
  rw [List.length_map, sizeLine_eq]
  have : ps.length + 1 ≤ (ps.length + 1) * (B + 2) := Nat.le_mul_of_pos_right _ (by omega)
  omega
def S_times : GSpec := fun ds h P => ∃ (ps : List (Int × Int)) (B : Nat), ds = ps.map fr ∧ 0 < B ∧ (∀ p ∈ ps, Bf B p) ∧ (ps.length + 1) * (B + 2) ≤ 4000 ∧ P (fr (prodF ps)) h
def b_times : gTS := (sAsg (gCall S_reduced (aCons (gBin RMul (gVar 1) (gBin RIx (gVar 3) (gC (.int 0)))) (aCons (gBin RMul (gVar 2) (gBin RIx (gVar 3) (gC (.int 1)))) aNil))) (tgTup 2 (tgCons (tgName 1) (tgCons (tgName 2) tgNil))))
def g_times : gTS := (sSeq (sAsg (gTup (aCons (gC (.int 1)) (aCons (gC (.int 1)) aNil))) (tgTup 2 (tgCons (tgName 1) (tgCons (tgName 2) tgNil))))
 (sSeq (sFor (iSeq (gVar 0)) (tgName 3)
  b_times)
 (sRet (gTup (aCons (gVar 1) (aCons (gVar 2) aNil))))))
theorem times_loop {d : D} {h : GH} {N : GEnds} {B : Nat} (hB : 0 < B) : ∀ (ps : List (Int × Int)) (X : Nat) (a b : Int) (o : Option D), 0 < X → Bf X (a, b) → (∀ p ∈ ps, Bf B p) → X + ps.length * (B + 2) ≤ 4000 → (∀ o', N.nx [some d, some (.int (ps.foldl mulF (a, b)).1), some (.int (ps.foldl mulF (a, b)).2), o'] h) →
    gLoop (tgName 3) b_times N (ps.map fr) [some d, some (.int a), some (.int b), o] h
  | [], X, a, b, o, _, _, _, _, k => k o
  | p :: r, X, a, b, o, hX, hab, hp, hz, k => by
    have hpp := hp p List.mem_cons_self
    rw [List.length_cons, Nat.succ_mul] at hz
    have m3 := mul_bits hab.2.2 hpp.2.2
    show b_times _ [some d, some (.int a), some (.int b), some (fr p)] h
    have hd : 0 < b * p.2 := Int.mul_pos hab.1 hpp.1
    refine ⟨_, rfl, _, rfl, _, ix0, _, ⟨mulW hab.2.1 hpp.2.1 hX hB (by omega), rfl⟩, _, rfl, _, rfl, _, ix1, _, ⟨mulW hab.2.2 hpp.2.2 hX hB (by omega), rfl⟩, _, _, rfl, by omega, lt_pow_mono m3 (by omega), ?_⟩
    rw [red_pos hd]
    refine ⟨_, rfl, rfl, _, _, rfl, _, _, rfl, rfl, ?_⟩
    have e : low (a * p.1) (b * p.2) = mulF (a, b) p := rfl
    rw [e]
    exact times_loop hB r (X + B + 1) (mulF (a, b) p).1 (mulF (a, b) p).2 _ (by omega) (mulF_bits hab hpp) (fun q hq => hp q (List.mem_cons_of_mem _ hq)) (by omega) k
theorem pure_times (ds : List D) (h : GH) (P : GP) (hs : S_times ds h P) : g_times { nx := fun _ h' => P .non h', rt := P } (startG ["parts", "numerator", "denominator", "part"] [.tup ds]) h := by
  obtain ⟨ps, B, rfl, hB, hp, hz, k⟩ := hs
  refine ⟨two_le, _, rfl, rfl, _, _, rfl, _, _, rfl, rfl, ?_⟩
  refine ⟨_, rfl, ?_⟩
  refine times_loop hB ps 1 1 1 none (by decide) ⟨by decide, one_bits (by decide), one_bits (by decide)⟩ hp (by rw [Nat.succ_mul] at hz; omega) fun o' => ?_
  exact ⟨_, rfl, _, rfl, two_le, .inl k⟩
theorem len_times (ds : List D) (h : GH) (P : GP) (hs : S_times ds h P) : ds.length ≤ sizeLine := by
  obtain ⟨ps, B, rfl, hB, hp, hz, k⟩ := hs
  rw [List.length_map, sizeLine_eq]
  have : ps.length + 1 ≤ (ps.length + 1) * (B + 2) := Nat.le_mul_of_pos_right _ (by omega)
  omega
def negF (p : Int × Int) : Int × Int := (-p.1, p.2)
def S_negative : GSpec := fun ds h P => ∃ p, ds = [fr p] ∧ P (fr (negF p)) h
def g_negative : gTS := (sRet (gTup (aCons (gUn RNeg (gBin RIx (gVar 0) (gC (.int 0)))) (aCons (gBin RIx (gVar 0) (gC (.int 1))) aNil))))
theorem pure_negative (ds : List D) (h : GH) (P : GP) (hs : S_negative ds h P) : g_negative { nx := fun _ h' => P .non h', rt := P } (startG ["part"] ds) h := by
  obtain ⟨p, rfl, k⟩ := hs
  exact ⟨_, rfl, _, ix0, _, rfl, _, rfl, _, ix1, two_le, .inl k⟩
theorem len_negative (ds : List D) (h : GH) (P : GP) (hs : S_negative ds h P) : ds.length = 1 := by obtain ⟨p, rfl, _⟩ := hs; rfl
def g_law_neg : gTS := (sRet (gTup (aCons (gBin RSub (gC (.int 0)) (gBin RIx (gVar 0) (gC (.int 0)))) (aCons (gBin RIx (gVar 0) (gC (.int 1))) aNil))))
theorem pure_law_neg (ds : List D) (h : GH) (P : GP) (hs : S_negative ds h P) : g_law_neg { nx := fun _ h' => P .non h', rt := P } (startG ["_law_p"] ds) h := by
  obtain ⟨p, rfl, k⟩ := hs
  refine ⟨_, rfl, _, ix0, _, rfl, _, rfl, _, ix1, two_le, .inl ?_⟩
  have e : negF p = (0 - p.1, p.2) := by unfold negF; rw [Int.zero_sub]
  rw [e] at k
  exact k
def ordF (p q : Int × Int) : Int := (if decide (q.1 * p.2 < p.1 * q.2) = true then 1 else 0) - (if decide (p.1 * q.2 < q.1 * p.2) = true then 1 else 0)
def S_order : GSpec := fun ds h P => ∃ p q B, ds = [fr p, fr q] ∧ 0 < B ∧ B ≤ 4000 ∧ Bf B p ∧ Bf B q ∧ P (.int (ordF p q)) h
def g_order : gTS := (sSeq (sPar 2 3 (aCons (gBin RMul (gBin RIx (gVar 0) (gC (.int 0))) (gBin RIx (gVar 1) (gC (.int 1)))) (aCons (gBin RMul (gBin RIx (gVar 1) (gC (.int 0))) (gBin RIx (gVar 0) (gC (.int 1)))) aNil)))
 (sRet (gBin RSub (gCB RInt (aCons (gBin (RCmp fun i j => decide (j < i)) (gVar 2) (gVar 3)) aNil)) (gCB RInt (aCons (gBin (RCmp fun i j => decide (i < j)) (gVar 2) (gVar 3)) aNil)))))
theorem pure_order (ds : List D) (h : GH) (P : GP) (hs : S_order ds h P) : g_order { nx := fun _ h' => P .non h', rt := P } (startG ["one", "other", "left", "right"] ds) h := by
  obtain ⟨p, q, B, rfl, hB, hB2, hp, hq, k⟩ := hs
  refine ⟨_, rfl, _, ix0, _, rfl, _, ix1, _, ⟨mulW hp.2.1 hq.2.2 hB hB (by omega), rfl⟩, _, rfl, _, ix0, _, rfl, _, ix1, _, ⟨mulW hq.2.1 hp.2.2 hB hB (by omega), rfl⟩, _, _, rfl, ?_⟩
  exact ⟨_, rfl, _, rfl, _, rfl, _, ⟨_, rfl, rfl⟩, _, rfl, _, rfl, _, rfl, _, ⟨_, rfl, rfl⟩, _, rfl, .inl k⟩
theorem len_order (ds : List D) (h : GH) (P : GP) (hs : S_order ds h P) : ds.length = 2 := by obtain ⟨p, q, B, rfl, _⟩ := hs; rfl
/-! the law's own -/
def S_law_add : GSpec := fun ds h P => ∃ p q B, ds = [fr p, fr q] ∧ 0 < B ∧ B ≤ 4000 ∧ Bf B p ∧ Bf B q ∧ P (fr (addF p q)) h
def g_law_add : gTS := (sRet (gCall S_law_low (aCons (gBin RAdd (gBin RMul (gBin RIx (gVar 0) (gC (.int 0))) (gBin RIx (gVar 1) (gC (.int 1)))) (gBin RMul (gBin RIx (gVar 1) (gC (.int 0))) (gBin RIx (gVar 0) (gC (.int 1))))) (aCons (gBin RMul (gBin RIx (gVar 0) (gC (.int 1))) (gBin RIx (gVar 1) (gC (.int 1)))) aNil))))
theorem pure_law_add (ds : List D) (h : GH) (P : GP) (hs : S_law_add ds h P) : g_law_add { nx := fun _ h' => P .non h', rt := P } (startG ["_law_p", "_law_q"] ds) h := by
  obtain ⟨p, q, B, rfl, hB, hB2, hp, hq, k⟩ := hs
  have hd : 0 < p.2 * q.2 := Int.mul_pos hp.1 hq.1
  exact ⟨_, rfl, _, ix0, _, rfl, _, ix1, _, ⟨mulW hp.2.1 hq.2.2 hB hB (by omega), rfl⟩, _, rfl, _, ix0, _, rfl, _, ix1, _, ⟨mulW hq.2.1 hp.2.2 hB hB (by omega), rfl⟩, _, rfl, _, rfl, _, ix1, _, rfl, _, ix1, _, ⟨mulW hp.2.2 hq.2.2 hB hB (by omega), rfl⟩,
    _, _, rfl, by omega, lt_pow_mono (mul_bits hp.2.2 hq.2.2) (by omega), .inl k⟩
theorem len_law_add (ds : List D) (h : GH) (P : GP) (hs : S_law_add ds h P) : ds.length = 2 := by obtain ⟨p, q, B, rfl, _⟩ := hs; rfl
def S_law_mul : GSpec := fun ds h P => ∃ p q B, ds = [fr p, fr q] ∧ 0 < B ∧ B ≤ 4000 ∧ Bf B p ∧ Bf B q ∧ P (fr (mulF p q)) h
def g_law_mul : gTS := (sRet (gCall S_law_low (aCons (gBin RMul (gBin RIx (gVar 0) (gC (.int 0))) (gBin RIx (gVar 1) (gC (.int 0)))) (aCons (gBin RMul (gBin RIx (gVar 0) (gC (.int 1))) (gBin RIx (gVar 1) (gC (.int 1)))) aNil))))
theorem pure_law_mul (ds : List D) (h : GH) (P : GP) (hs : S_law_mul ds h P) : g_law_mul { nx := fun _ h' => P .non h', rt := P } (startG ["_law_p", "_law_q"] ds) h := by
  obtain ⟨p, q, B, rfl, hB, hB2, hp, hq, k⟩ := hs
  have hd : 0 < p.2 * q.2 := Int.mul_pos hp.1 hq.1
  exact ⟨_, rfl, _, ix0, _, rfl, _, ix0, _, ⟨mulW hp.2.1 hq.2.1 hB hB (by omega), rfl⟩, _, rfl, _, ix1, _, rfl, _, ix1, _, ⟨mulW hp.2.2 hq.2.2 hB hB (by omega), rfl⟩,
    _, _, rfl, by omega, lt_pow_mono (mul_bits hp.2.2 hq.2.2) (by omega), .inl k⟩
theorem len_law_mul (ds : List D) (h : GH) (P : GP) (hs : S_law_mul ds h P) : ds.length = 2 := by obtain ⟨p, q, B, rfl, _⟩ := hs; rfl
def S_law_less : GSpec := fun ds h P => ∃ p q B, ds = [fr p, fr q] ∧ 0 < B ∧ B ≤ 4000 ∧ Bf B p ∧ Bf B q ∧ P (.bl (decide (p.1 * q.2 < q.1 * p.2))) h
def g_law_less : gTS := (sRet (gBin (RCmp fun i j => decide (i < j)) (gBin RMul (gBin RIx (gVar 0) (gC (.int 0))) (gBin RIx (gVar 1) (gC (.int 1)))) (gBin RMul (gBin RIx (gVar 1) (gC (.int 0))) (gBin RIx (gVar 0) (gC (.int 1))))))
theorem pure_law_less (ds : List D) (h : GH) (P : GP) (hs : S_law_less ds h P) : g_law_less { nx := fun _ h' => P .non h', rt := P } (startG ["_law_p", "_law_q"] ds) h := by
  obtain ⟨p, q, B, rfl, hB, hB2, hp, hq, k⟩ := hs
  exact ⟨_, rfl, _, ix0, _, rfl, _, ix1, _, ⟨mulW hp.2.1 hq.2.2 hB hB (by omega), rfl⟩, _, rfl, _, ix0, _, rfl, _, ix1, _, ⟨mulW hq.2.1 hp.2.2 hB hB (by omega), rfl⟩, _, rfl, .inl k⟩
theorem len_law_less (ds : List D) (h : GH) (P : GP) (hs : S_law_less ds h P) : ds.length = 2 := by obtain ⟨p, q, B, rfl, _⟩ := hs; rfl
def g_law_sum : gTS := (sSeq (sSet 1 (gTup (aCons (gC (.int 0)) (aCons (gC (.int 1)) aNil))))
 (sSeq (sFor (iSeq (gVar 0)) (tgName 2)
  (sSet 1 (gCall S_law_add (aCons (gVar 1) (aCons (gVar 2) aNil)))))
 (sRet (gVar 1))))
theorem sum_loop {d : D} {h : GH} {N : GEnds} {B : Nat} (hB : 0 < B) : ∀ (ps : List (Int × Int)) (X : Nat) (a : Int × Int) (o : Option D), 0 < X → B ≤ X → Bf X a → (∀ p ∈ ps, Bf B p) → X + ps.length * (B + 2) ≤ 4000 → (∀ o', N.nx [some d, some (fr (ps.foldl addF a)), o'] h) →
    gLoop (tgName 2) (sSet 1 (gCall S_law_add (aCons (gVar 1) (aCons (gVar 2) aNil)))) N (ps.map fr) [some d, some (fr a), o] h
  | [], X, a, o, _, _, _, _, _, k => k o
  | p :: r, X, a, o, hX, hBX, ha, hp, hz, k => by
    have hpp := hp p List.mem_cons_self
    rw [List.length_cons, Nat.succ_mul] at hz
    refine ⟨_, rfl, _, rfl, a, p, X, rfl, hX, by omega, ha, hpp.mono hBX, ?_⟩
    exact sum_loop hB r (X + B + 1) (addF a p) _ (by omega) (by omega) (addF_bits ha hpp) (fun q hq => hp q (List.mem_cons_of_mem _ hq)) (by omega) k
theorem pure_law_sum (ds : List D) (h : GH) (P : GP) (hs : S_total ds h P) : g_law_sum { nx := fun _ h' => P .non h', rt := P } (startG ["_law_parts", "_law_found", "_law_part"] ds) h := by
  obtain ⟨ps, B, hd, hB, hp, hz, k⟩ := hs
  have go : ∀ d : D, (∀ Q : List D → GH → Prop, Q (ps.map fr) h → (match d with
  | .lst ds => Q ds h
  | .tup ds => Q ds h
  | .str x => Q (strD x) h
  | _ => False)) → g_law_sum { nx := fun _ h' => P .non h', rt := P } [some d, none, none] h := fun d hq => by
    refine ⟨two_le, _, rfl, hq _ ?_⟩
    exact sum_loop hB ps B (0, 1) none hB (Nat.le_refl _) ⟨by decide, zero_bits, one_bits hB⟩ hp (by rw [Nat.succ_mul] at hz; omega) fun o' => ⟨_, rfl, .inl k⟩
  rcases hd with rfl | rfl
  · exact go _ fun Q q => q
  · exact go _ fun Q q => q
/-! ## one of some -/
def seqOf (h : GH) (d : D) : Option (List D) := match vw h d with
  | .lst xs => some xs
  | .tup xs => some xs
  | .str x => some (strD x)
  | _ => none
def S_law_of : GSpec := fun ds h P => ∃ (b : Addr) (d : D) (xs : List D), ds = [.ref b, d] ∧ h b = some .bag ∧ seqOf h d = some xs ∧ xs ≠ [] ∧ xs.length ≤ sizeLine ∧ ∀ x ∈ xs, P x h
def g_law_of : gTS := (sRet (gBin RIx (gVar 1) (gCall S_law_pull (aCons (gVar 0) (aCons (gCB RLen (aCons (gVar 1) aNil)) aNil)))))
theorem small_log {n : Nat} (h : n ≤ 2 ^ 64) : n.log2 < 9000 := log2_of (Nat.lt_of_le_of_lt h (Nat.pow_lt_pow_right (by decide) (by decide))) (by decide)
theorem pure_law_of (ds : List D) (h : GH) (P : GP) (hs : S_law_of ds h P) : g_law_of { nx := fun _ h' => P .non h', rt := P } (startG ["_law_bag_here", "_law_some"] ds) h := by
  obtain ⟨b, d, xs, rfl, hb, hq, hne, hz, k⟩ := hs
  have hl : 0 < xs.length := List.length_pos_iff.mpr hne
  rw [sizeLine_eq] at hz
  have fin : ∀ i : Int, 0 ≤ i → i < (xs.length : Int) → ∃ x, atI xs i = some x ∧ x ∈ xs := fun i h0 h1 => by
    have hi : i.toNat < xs.length := by omega
    refine ⟨xs[i.toNat], ?_, List.getElem_mem hi⟩
    have e : ((i.toNat : Nat) : Int) = i := by omega
    have q : atI xs ((i.toNat : Nat) : Int) = some xs[i.toNat] := atI_nat (List.getElem?_eq_getElem hi)
    rw [e] at q
    exact q
  unfold seqOf at hq
  refine ⟨_, rfl, _, rfl, _, rfl, ?_⟩
  split at hq
  · rename_i ys e
    cases hq
    refine ⟨_, len_of (.inl e), b, _, rfl, hb, by omega, small_log (by omega), fun i h0 h1 => ?_⟩
    obtain ⟨x, hx, hm⟩ := fin i h0 h1
    exact ⟨x, ix_of (.inl e) hx, .inl (k x hm)⟩
  · rename_i ys e
    cases hq
    refine ⟨_, len_of (.inr e), b, _, rfl, hb, by omega, small_log (by omega), fun i h0 h1 => ?_⟩
    obtain ⟨x, hx, hm⟩ := fin i h0 h1
    exact ⟨x, ix_of (.inr e) hx, .inl (k x hm)⟩
  · rename_i z e
    cases hq
    have hlen : (strD z).length = z.length := by unfold strD; simp [Str.length]
    rw [hlen] at hz hl
    refine ⟨.int (z.length : Nat), ⟨d, rfl, ?_⟩, b, _, rfl, hb, by omega, small_log (by omega), fun i h0 h1 => ?_⟩
    · rw [e]; exact ⟨by rw [sizeLine_eq]; exact hz, rfl⟩
    · have hi : i.toNat < z.cps.toList.length := by
        have : z.cps.toList.length = z.length := by simp [Str.length]
        omega
      have ei : ((i.toNat : Nat) : Int) = i := by omega
      have q : atI z.cps.toList ((i.toNat : Nat) : Int) = some z.cps.toList[i.toNat] := atI_nat (List.getElem?_eq_getElem hi)
      rw [ei] at q
      refine ⟨.str ⟨#[z.cps.toList[i.toNat]]⟩, ?_, .inl (k _ ?_)⟩
      · unfold RIx
        rw [e]
        exact ⟨by rw [sizeLine_eq]; exact hz, _, q, rfl⟩
      · unfold strD
        exact List.mem_map.mpr ⟨_, List.getElem_mem hi, rfl⟩
  · cases hq
theorem len_law_of (ds : List D) (h : GH) (P : GP) (hs : S_law_of ds h P) : ds.length = 2 := by obtain ⟨b, d, xs, rfl, _⟩ := hs; rfl
/-! ## a drawn fraction -/
def S_law_ratio : GSpec := fun ds h P => ∃ (b : Addr) (m : Int), ds = [.ref b, .int m] ∧ h b = some .bag ∧ 0 < m ∧ m ≤ 2 ^ 60 ∧ ∀ p : Int × Int, isLow p → p.1.natAbs ≤ (max 10 m).natAbs → p.2.natAbs ≤ (max 10 m).natAbs → P (fr p) h
def g_law_ratio : gTS := (sSeq (sSet 2 (gCall S_law_of (aCons (gVar 0) (aCons (gFr (fLst (aCons (gC (.int 3)) (aCons (gC (.int 10)) (aCons (gVar 1) aNil))))) aNil))))
 (sRet (gCall S_law_low (aCons (gBin RSub (gCall S_law_pull (aCons (gVar 0) (aCons (gBin RAdd (gBin RMul (gC (.int 2)) (gVar 2)) (gC (.int 1))) aNil))) (gVar 2)) (aCons (gBin RAdd (gC (.int 1)) (gCall S_law_pull (aCons (gVar 0) (aCons (gVar 2) aNil)))) aNil)))))
theorem pure_law_ratio (ds : List D) (h : GH) (P : GP) (hs : S_law_ratio ds h P) : g_law_ratio { nx := fun _ h' => P .non h', rt := P } (startG ["_law_bag_here", "_law_most", "_law_top"] ds) h := by
  obtain ⟨b, m, rfl, hb, h0, hz, k⟩ := hs
  refine ⟨_, rfl, _, rfl, by show 3 ≤ sizeLine; decide, b, _, _, rfl, hb, rfl, (fun q => nomatch q), by show 3 ≤ sizeLine; decide, fun x hx => ?_⟩
  obtain ⟨t, rfl, t0, t1, t2⟩ : ∃ t : Int, x = .int t ∧ 0 < t ∧ t ≤ max 10 m ∧ t ≤ 2 ^ 60 := by
    rcases List.mem_cons.mp hx with rfl | hx
    · exact ⟨3, rfl, by decide, by omega, by decide⟩
    · rcases List.mem_cons.mp hx with rfl | hx
      · exact ⟨10, rfl, by decide, by omega, by decide⟩
      · rcases List.mem_cons.mp hx with rfl | hx
        · exact ⟨m, rfl, h0, by omega, hz⟩
        · cases hx
  have e0 : ∀ n : Int, 0 ≤ n → n ≤ 2 ^ 62 → n.natAbs.log2 < 9000 := fun n a1 a2 => small_log (by omega)
  refine ⟨_, rfl, _, rfl, _, ⟨mulL (by decide) (by decide), rfl⟩, _, rfl, b, _, rfl, hb, by omega, e0 _ (by omega) (by omega), fun u u0 u1 => ?_⟩
  refine ⟨_, rfl, _, rfl, _, rfl, _, rfl, b, _, rfl, hb, t0, e0 _ (by omega) (by omega), fun v v0 v1 => ?_⟩
  refine ⟨_, rfl, _, _, rfl, by omega, ?_, .inl ?_⟩
  · have : (1 + v).natAbs ≤ 2 ^ 61 := by omega
    exact Nat.lt_of_le_of_lt this (Nat.pow_lt_pow_right (by decide) (by decide))
  · refine k _ (low_low (by omega)) (Nat.le_trans (ediv_natAbs_le _ _) ?_) (Nat.le_trans (ediv_natAbs_le _ _) ?_)
    · omega
    · omega
theorem len_law_ratio (ds : List D) (h : GH) (P : GP) (hs : S_law_ratio ds h P) : ds.length = 2 := by obtain ⟨b, d, rfl, _⟩ := hs; rfl
end Gh

set_option maxHeartbeats 1000000
namespace Gh
open PySem L2
/-! ## the bag is made -/
def S_law_bag : GSpec := fun ds h P => ∃ ns : List Int, ds = [.fro (ns.map .int)] ∧ ns.length ≤ 63 ∧ ∀ b, h b = none → P (.ref b) (put h b .bag)
def g_law_bag : gTS := (sSeq (sSet 1 (gC (.int 3801)))
 (sSeq (sFor (iSeq (gSl (gVar 0) gNoPart (gPart (gC (.int 63))))) (tgName 2)
  (sSet 1 (gBin RMod (gBin RAdd (gBin RAdd (gBin RMul (gVar 1) (gC (.int 52163))) (gBin RMod (gVar 2) (gC (.int 2147483549)))) (gC (.int 17))) (gC (.int 2147483647)))))
 (sRetO (fLst (aCons (gFr (fList (aCons (gSl (gVar 0) gNoPart (gPart (gC (.int 63)))) aNil))) (aCons (gC (.int 0)) (aCons (gC (.int 0)) (aCons (gVar 1) (aCons (gC (.int 0)) aNil)))))))))
theorem cut63 {α : Type} (xs : List α) (h : xs.length ≤ 63) : cutD xs none (some 63) = xs := by
  unfold cutD
  rw [HT.sIx_none, List.drop_zero, Nat.sub_zero]
  have e : HT.sIx xs.length xs.length (some 63) = min 63 xs.length := HT.sIx_nat xs.length xs.length 63
  rw [e, Nat.min_eq_right h, List.take_length]
theorem bag_loop {d : D} {h : GH} {N : GEnds} (k : ∀ (s : Int) (o : Option D), 0 ≤ s → s < 2147483647 → N.nx [some d, some (.int s), o] h) : ∀ (ns : List Int) (s : Int) (o : Option D), 0 ≤ s → s < 2147483647 →
    gLoop (tgName 2) (sSet 1 (gBin RMod (gBin RAdd (gBin RAdd (gBin RMul (gVar 1) (gC (.int 52163))) (gBin RMod (gVar 2) (gC (.int 2147483549)))) (gC (.int 17))) (gC (.int 2147483647)))) N (ns.map .int) [some d, some (.int s), o] h
  | [], s, o, h0, h1 => k s o h0 h1
  | n :: r, s, o, h0, h1 => by
    have hs := fmod_in (s * 52163 + n.fmod 2147483549 + 17) (show (0 : Int) < 2147483647 by decide)
    refine ⟨_, rfl, _, ⟨mulR (by decide) (by decide), rfl⟩, _, rfl, _, ⟨by decide, rfl⟩, _, rfl, _, rfl, _, ⟨by decide, rfl⟩, ?_⟩
    exact bag_loop k r _ _ hs.1 hs.2
theorem pure_law_bag (ns : List Int) (hl : ns.length ≤ 63) (h : GH) (N : GEnds) (k : ∀ (s : Int) (p : Addr), 0 ≤ s → s < 2147483647 → h p = none → N.rt (.ref p) (put h p (bagL ns 0 0 s 0))) : g_law_bag N [some (.fro (ns.map .int)), none, none] h := by
  have hc : cutD (ns.map D.int) none (some 63) = ns.map D.int := cut63 _ (by rw [List.length_map]; exact hl)
  refine ⟨_, rfl, _, rfl, _, rfl, ?_⟩
  show gLoop _ _ _ (cutD (ns.map D.int) none (some 63)) _ h
  rw [hc]
  refine bag_loop (fun s o h0 h1 => ?_) ns 3801 none (by decide) (by decide)
  refine ⟨_, rfl, _, rfl, _, rfl, _, _, rfl, .inl rfl, ?_⟩
  rw [hc]
  exact ⟨_, rfl, by show 5 ≤ sizeLine; decide, fun p hp => k s p h0 h1 hp⟩
theorem len_law_bag (ds : List D) (h : GH) (P : GP) (hs : S_law_bag ds h P) : ds.length = 1 := by obtain ⟨a, rfl, _⟩ := hs; rfl
section
variable {P : Program} {w : World} {K : Fg} {mg : Str → Option Value} {base : Heap}
theorem gfun_bag {st : Stmt} {f : Addr} {fd : FuncData} {k : Nat} (F : Fun K "_law_bag" "_law_bag" st f fd) (hm : mg "_law_bag" = some (.ref f)) (b : Binds K fd ["_law_script"] []) (sc : FnScope ["_law_script", "_law_salt", "_law_cell"] ["_law_script"] (defScope st))
    (hd : ∀ (cdv : Value) (A : Around) (outer : List Env) (s : Shared) (H : Hp) (E : XK), Room k (A.deeper (PyProof.Rows.envOfC "_law_bag" (defScope st) s.heap.objs.size f cdv)) → PSs (cxOf CX0 P w K mg base ["_law_script", "_law_salt", "_law_cell"] "_law_bag" (defScope st) f cdv A outer s H E).nox (defBody st) (gS K AN.top g_law_bag)) :
    Fc P w K mg base (k + 1) "_law_bag" S_law_bag := by
  refine ⟨f, ?_, hm, F.kp⟩
  have ok : FnOk P w K mg base CX0 (k + 1) f fd ["_law_script"] (GSP K S_law_bag) := by
    refine F.ok sc (fun vs H Q E ⟨ds, h, P, re, dv, s, _⟩ => by rw [dv.length]; exact len_law_bag _ _ _ s) (fun cdv A outer s H vs Q E hr ⟨ds, h, P, re, dv, ⟨ns, e1, hl, hp⟩, kk⟩ => ⟨_, hd cdv A outer s H E hr, ?_⟩)
    subst e1
    refine ⟨[some (.fro (ns.map .int)), none, none], h, { nx := fun _ _ => False, rt := fun d h' => ∃ s p, 0 ≤ s ∧ s < 2147483647 ∧ h p = none ∧ d = .ref p ∧ h' = put h p (bagL ns 0 0 s 0) }, re, Sl.begin dv trivial, pure_law_bag ns hl h _ fun s p h0 h1 n => ⟨s, p, h0, h1, n, rfl, rfl⟩, fun _ _ _ _ _ _ _ z => z.elim, fun v H' d h' st1 re' dv' p => ?_, fun _ _ _ _ _ _ _ z => z.elim, fun _ _ _ _ _ _ _ z => z.elim⟩
    obtain ⟨sa, q, h0, h1, n, rfl, rfl⟩ := p
    cases dv'
    have e : put (put h q GO.bag) q (bagL ns 0 0 sa 0) = put h q (bagL ns 0 0 sa 0) := put_put
    have re2 : Rel K (put h q GO.bag) H' := bag_shut (b := q) (ns := ns) (i := 0) (g := 0) (s := sa) (c := 0) put_same ⟨hl, by decide, by omega, by decide, h0, h1, by decide⟩ (by rw [e]; exact re')
    have st2 : Step (put h q (bagL ns 0 0 sa 0)) H' (put h q GO.bag) H' := Step.dom fun a y => by
      by_cases z : a = q
      · subst z; rw [put_same] at y; cases y
      · rw [put_ne z] at y ⊢; exact y
    exact kk _ H' _ _ (st1.trans st2) re2 (.ref q) (hp q n)
  exact (ok.raw b .nil).imp fun vs H Q E q => by rw [List.append_nil]; exact q
/-- a def that calls itself, with no call left -/
theorem fc_none {x : Str} {st : Stmt} {f : Addr} {fd : FuncData} (F : Fun K x x st f fd) (hm : mg x = some (.ref f)) : Fc P w K mg base 0 x (fun _ _ _ => False) :=
  ⟨f, fun A outer s H us vs Q E _ _ _ ⟨_, _, _, _, _, z, _⟩ => z.elim, hm, F.kp⟩
/-! ## the law itself -/
/-- what law(script) promises: for a list of at most 63 ints the answer is True -/
def S_law : GSpec := fun ds h P => ∃ ns : List Int, ds = [.fro (ns.map .int)] ∧ ns.length ≤ 63 ∧ h = (fun _ => none) ∧ ∀ h', P (.bl true) h'
def spLaw (K : Fg) : Sp := fun vs H Q _ => ∃ (a : Addr) (ns : List Int), vs = [.ref a] ∧ SqL K H a (ns.map V.int) ∧ ns.length ≤ 63 ∧ ∀ H', Q (.bl true) H'
theorem law_of {x : Str} {st : Stmt} {f : Addr} {fd : FuncData} {N ps : List Str} {k : Nat} {g : gTS} (F : Fun K x x st f fd) (sc : FnScope N ps (defScope st)) (hps : ps.length = 1)
    (hd : ∀ (cdv : Value) (A : Around) (outer : List Env) (s : Shared) (H : Hp) (E : XK), Room k (A.deeper (PyProof.Rows.envOfC x (defScope st) s.heap.objs.size f cdv)) → PSs (cxOf CX0 P w K mg base N x (defScope st) f cdv A outer s H E).nox (defBody st) (gS K AN.top g))
    (hg : ∀ (ns : List Int), ns.length ≤ 63 → g { nx := fun _ _ => False, rt := fun d _ => d = .bl true } (startG N [.fro (ns.map .int)]) (fun _ => none)) : FnOk P w K mg base CX0 (k + 1) f fd ps (spLaw K) := by
  refine F.ok sc (fun vs H Q E ⟨a, ns, e, _⟩ => by subst e; exact hps.symm) (fun cdv A outer s H vs Q E hr ⟨a, ns, e, hS, hl, kk⟩ => ⟨_, hd cdv A outer s H E hr, ?_⟩)
  subst e
  have dv : Dvs K (fun _ => none) H [.ref a] [.fro (ns.map .int)] := .cons (.fro (hS.elim (fun z => .inl ⟨rfl, z⟩) .inr) (Dvs.ints ns)) .nil
  exact ⟨startG N [.fro (ns.map .int)], fun _ => none, _, (fun _ _ z => nomatch z), Sl.begin dv trivial, hg ns hl, fun _ _ _ _ _ _ _ z => z.elim, fun v H' d h' st re' dv' p => by subst p; cases dv'; exact kk H', fun _ _ _ _ _ _ _ z => z.elim, fun _ _ _ _ _ _ _ z => z.elim⟩
end
end Gh

set_option maxHeartbeats 1000000
namespace Gh
open PySem L2
/-! ## more on fractions -/
theorem addF_zero {p : Int × Int} (h : isLow p) : addF (0, 1) p = p := by
  have e : addF (0, 1) p = low p.1 p.2 := by
    unfold addF
    show low (0 * p.2 + p.1 * 1) (1 * p.2) = _
    rw [Int.zero_mul, Int.zero_add, Int.mul_one, Int.one_mul]
  rw [e, low_self h]
theorem mulF_one {p : Int × Int} (h : isLow p) : mulF (1, 1) p = p := by
  have e : mulF (1, 1) p = low p.1 p.2 := by
    unfold mulF
    show low (1 * p.1) (1 * p.2) = _
    rw [Int.one_mul, Int.one_mul]
  rw [e, low_self h]
theorem addF_low {p q : Int × Int} (hp : 0 < p.2) (hq : 0 < q.2) : isLow (addF p q) := low_low (Int.mul_pos hp hq)
theorem mulF_low {p q : Int × Int} (hp : 0 < p.2) (hq : 0 < q.2) : isLow (mulF p q) := low_low (Int.mul_pos hp hq)
theorem low_spec {n d : Int} (hd : 0 < d) : ∃ g : Int, 0 < g ∧ n = g * (low n d).1 ∧ d = g * (low n d).2 := by
  have hg := Int.gcd_pos_of_ne_zero_right n (show d ≠ 0 by omega)
  refine ⟨(Int.gcd n d : Nat), by omega, ?_, ?_⟩
  · exact (Int.mul_ediv_cancel' (Int.gcd_dvd_left n d)).symm
  · exact (Int.mul_ediv_cancel' (Int.gcd_dvd_right n d)).symm
theorem lt_scale {g x y : Int} (hg : 0 < g) : g * x < g * y ↔ x < y := Int.mul_lt_mul_left hg
theorem ord_low {n d n' d' : Int} (hd : 0 < d) (hd' : 0 < d') : ordF (low n d) (low n' d') = ordF (n, d) (n', d') := by
  obtain ⟨g, hg, e1, e2⟩ := low_spec (n := n) hd
  obtain ⟨g', hg', e3, e4⟩ := low_spec (n := n') hd'
  have hgg : 0 < g * g' := Int.mul_pos hg hg'
  generalize low n d = p at *
  generalize low n' d' = q at *
  have a1 : n' * d = (g * g') * (q.1 * p.2) := by rw [e2, e3]; ac_rfl
  have a2 : n * d' = (g * g') * (p.1 * q.2) := by rw [e1, e4]; ac_rfl
  unfold ordF
  show _ = (if decide (n' * d < n * d') = true then (1 : Int) else 0) - (if decide (n * d' < n' * d) = true then 1 else 0)
  rw [a1, a2]
  simp only [decide_eq_true_eq, lt_scale hgg]
theorem ord_add {a b c : Int × Int} (ha : 0 < a.2) (hb : 0 < b.2) (hc : 0 < c.2) : ordF (addF a c) (addF b c) = ordF a b := by
  unfold addF
  rw [ord_low (Int.mul_pos ha hc) (Int.mul_pos hb hc)]
  have hcc : 0 < c.2 * c.2 := Int.mul_pos hc hc
  have i1 : (b.1 * c.2 + c.1 * b.2) * (a.2 * c.2) = (c.2 * c.2) * (b.1 * a.2) + c.1 * b.2 * a.2 * c.2 := by
    rw [Int.add_mul]
    have q1 : b.1 * c.2 * (a.2 * c.2) = (c.2 * c.2) * (b.1 * a.2) := by ac_rfl
    have q2 : c.1 * b.2 * (a.2 * c.2) = c.1 * b.2 * a.2 * c.2 := by ac_rfl
    rw [q1, q2]
  have i2 : (a.1 * c.2 + c.1 * a.2) * (b.2 * c.2) = (c.2 * c.2) * (a.1 * b.2) + c.1 * b.2 * a.2 * c.2 := by
    rw [Int.add_mul]
    have q1 : a.1 * c.2 * (b.2 * c.2) = (c.2 * c.2) * (a.1 * b.2) := by ac_rfl
    have q2 : c.1 * a.2 * (b.2 * c.2) = c.1 * b.2 * a.2 * c.2 := by ac_rfl
    rw [q1, q2]
  unfold ordF
  dsimp only
  rw [i1, i2]
  have j1 : ((c.2 * c.2) * (b.1 * a.2) + c.1 * b.2 * a.2 * c.2 < (c.2 * c.2) * (a.1 * b.2) + c.1 * b.2 * a.2 * c.2) ↔ b.1 * a.2 < a.1 * b.2 := by
    rw [Int.add_lt_add_iff_right, lt_scale hcc]
  have j2 : ((c.2 * c.2) * (a.1 * b.2) + c.1 * b.2 * a.2 * c.2 < (c.2 * c.2) * (b.1 * a.2) + c.1 * b.2 * a.2 * c.2) ↔ a.1 * b.2 < b.1 * a.2 := by
    rw [Int.add_lt_add_iff_right, lt_scale hcc]
  simp only [decide_eq_true_eq, j1, j2]
theorem ord_swap (a b : Int × Int) : ordF b a = 0 - ordF a b := by unfold ordF; omega
theorem ord_self (a : Int × Int) : ordF a a = 0 := by unfold ordF; omega
theorem fold_low (f : Int × Int → Int × Int → Int × Int) (hf : ∀ p q : Int × Int, 0 < p.2 → 0 < q.2 → isLow (f p q)) : ∀ (ps : List (Int × Int)) (a : Int × Int), isLow a → (∀ p ∈ ps, 0 < p.2) → isLow (ps.foldl f a)
  | [], a, h, _ => h
  | p :: r, a, h, hp => fold_low f hf r (f a p) (hf a p h.1 (hp p List.mem_cons_self)) fun q hq => hp q (List.mem_cons_of_mem _ hq)
theorem fold_bits {B : Nat} : ∀ (ps : List (Int × Int)) (X : Nat) (a : Int × Int), Bf X a → (∀ p ∈ ps, Bf B p) → Bf (X + ps.length * (B + 1)) (ps.foldl mulF a)
  | [], X, a, h, _ => by simpa using h
  | p :: r, X, a, h, hp => by
    have := fold_bits r (X + B + 1) (mulF a p) (mulF_bits h (hp p List.mem_cons_self)) fun q hq => hp q (List.mem_cons_of_mem _ hq)
    rw [List.length_cons, Nat.succ_mul]
    exact this.mono (by omega)
/-! ## data of fractions -/
theorem okD_fr (n : Nat) (p : Int × Int) : okD (n + 1) (fr p) := ⟨two_le, fun x hx => by
  rcases List.mem_cons.mp hx with rfl | hx
  · cases n <;> trivial
  · rcases List.mem_cons.mp hx with rfl | hx
    · cases n <;> trivial
    · cases hx⟩
theorem okD_lst {n : Nat} {ds : List D} (hz : ds.length ≤ sizeLine) (h : ∀ x ∈ ds, okD n x) : okD (n + 1) (.lst ds) := ⟨hz, h⟩
def prP (p : Int × Int) : PyData := .tuple [.int p.1, .int p.2]
theorem toP_fr (p : Int × Int) : toP (fr p) = some (prP p) := rfl
theorem toPs_fr : ∀ ps : List (Int × Int), toPs (ps.map fr) = some (ps.map prP)
  | [] => rfl
  | p :: r => by
    show (toP (fr p)).bind (fun x => (toPs (r.map fr)).map (x :: ·)) = _
    rw [toP_fr, toPs_fr r]
    rfl
theorem lay_fr : ∀ ps : List (Int × Int), PyData.canLayAll0 (ps.map prP) = true
  | [] => rfl
  | p :: r => by
    show ((prP p).canLay0 && PyData.canLayAll0 (r.map prP)) = true
    rw [lay_fr r]
    rfl
theorem depth_fr : ∀ ps : List (Int × Int), PyData.depthAll (ps.map prP) ≤ 1
  | [] => by decide
  | p :: r => by
    show max (prP p).depth (PyData.depthAll (r.map prP)) ≤ 1
    have := depth_fr r
    have e : (prP p).depth = 1 := rfl
    omega
theorem shaped_fr (ps : List (Int × Int)) : SeqAt.shaped (.list (ps.map prP)) = true := by
  unfold SeqAt.shaped
  have h1 : (PyData.list (ps.map prP)).canLay0 = true := lay_fr ps
  have h2 : (PyData.list (ps.map prP)).depth ≤ 64 := by
    have : (PyData.list (ps.map prP)).depth = PyData.depthAll (ps.map prP) + 1 := rfl
    have := depth_fr ps
    omega
  rw [h1, decide_eq_true h2]
  rfl
theorem ne_same {h : GH} {ps : List (Int × Int)} : REq true h (.lst (ps.map fr)) (.lst (ps.map fr)) (.bl false) := by
  have e : toP (.lst (ps.map fr)) = some (.list (ps.map prP)) := by
    show (toPs (ps.map fr)).map PyData.list = _
    rw [toPs_fr]
    rfl
  refine ⟨_, _, e, e, shaped_fr ps, shaped_fr ps, ?_⟩
  have := SeqAt.eqv_refl (.list (ps.map prP)) (lay_fr ps)
  rw [this]
  rfl
theorem ne_nil {h : GH} {ps : List (Int × Int)} : ∃ b, REq true h (.lst (ps.map fr)) (.lst []) (.bl b) ∧ (b = true → ps ≠ []) := by
  have e : toP (.lst (ps.map fr)) = some (.list (ps.map prP)) := by
    show (toPs (ps.map fr)).map PyData.list = _
    rw [toPs_fr]
    rfl
  refine ⟨_, ⟨_, _, e, rfl, shaped_fr ps, rfl, rfl⟩, fun hb z => ?_⟩
  subst z
  cases hb
theorem F2.frs {α : Type} {Good : Int × Int → Prop} : ∀ {as : List α} {ys : List D}, F2 (fun _ y => ∃ q, y = fr q ∧ Good q) as ys → ∃ qs : List (Int × Int), ys = qs.map fr ∧ qs.length = as.length ∧ ∀ q ∈ qs, Good q
  | _, _, .nil => ⟨[], rfl, rfl, fun _ h => nomatch h⟩
  | _, _, .cons ⟨q, e, g⟩ r => by
    obtain ⟨qs, e2, hl, hg⟩ := F2.frs r
    refine ⟨q :: qs, by rw [e, e2]; rfl, by rw [List.length_cons, List.length_cons, hl], fun x hx => ?_⟩
    rcases List.mem_cons.mp hx with rfl | hx
    · exact g
    · exact hg x hx
theorem of_le {q : Int × Int} {m B : Nat} (hl : isLow q) (h1 : q.1.natAbs ≤ m) (h2 : q.2.natAbs ≤ m) (hm : m < 2 ^ B) : Bf B q := ⟨hl.1, Nat.lt_of_le_of_lt h1 hm, Nat.lt_of_le_of_lt h2 hm⟩
theorem mem3 {α : Type} {P : α → Prop} {a b c : α} (ha : P a) (hb : P b) (hc : P c) : ∀ x ∈ [a, b, c], P x := fun x hx => by
  rcases List.mem_cons.mp hx with rfl | hx
  · exact ha
  · rcases List.mem_cons.mp hx with rfl | hx
    · exact hb
    · rcases List.mem_cons.mp hx with rfl | hx
      · exact hc
      · cases hx
theorem mem2 {α : Type} {P : α → Prop} {a b : α} (ha : P a) (hb : P b) : ∀ x ∈ [a, b], P x := fun x hx => by
  rcases List.mem_cons.mp hx with rfl | hx
  · exact ha
  · rcases List.mem_cons.mp hx with rfl | hx
    · exact hb
    · cases hx
theorem mem1 {α : Type} {P : α → Prop} {a : α} (ha : P a) : ∀ x ∈ [a], P x := fun x hx => by
  rcases List.mem_cons.mp hx with rfl | hx
  · exact ha
  · cases hx
theorem memC {α : Type} {P : α → Prop} {a : α} {l : List α} (ha : P a) (hl : ∀ x ∈ l, P x) : ∀ x ∈ a :: l, P x := fun x hx => by
  rcases List.mem_cons.mp hx with rfl | hx
  · exact ha
  · exact hl x hx
theorem memN {α : Type} {P : α → Prop} : ∀ x ∈ ([] : List α), P x := fun _ h => nomatch h
theorem okI (n : Nat) (i : Int) : okD n (.int i) := by cases n <;> trivial
theorem okB (n : Nat) (i : Bool) : okD n (.bl i) := by cases n <;> trivial
theorem okS (n : Nat) (i : Str) : okD n (.str i) := by cases n <;> trivial
theorem okN (n : Nat) : okD n .non := by cases n <;> trivial
/-- equal data -/
theorem same_of {n : Nat} {h : GH} {P : GP} {a b d : D} (ea : a = d) (eb : b = d) (hv : vw h d = d) (ho : okD n d) (k : P (.bl true) h) : S_law_same n [a, b] h P := by
  subst ea eb
  exact ⟨_, _, _, rfl, hv, hv, ho, k⟩
end Gh

/-! H0: the head's facts over a part of the heap that is found name by name -/
namespace Gh
open PySem PySem.Spec PyProof.Rows L2
def clsBody : Stmt → List Stmt
  | .ClassDef _ _ _ b _ _ _ _ _ _ _ => b
  | _ => []
/-- what is looked at behind an object: a def's code and defaults, a class's names, a dict's values -/
def refsF (o : Obj) : List Addr := match o.data with
  | .func fd => He.refV fd.code ++ (He.refV fd.defaults ++ (He.refV fd.kwdefaults ++ fd.closure.map (·.2)))
  | .cls cd => [cd.ns]
  | _ => []
/-- the values of a dict (a class's names) -/
def refsN (o : Obj) : List Addr := match o.data with
  | .dict es _ => es.toList.flatMap fun e => He.refV e.val
  | _ => []
def next (f : Obj → List Addr) (g : Addr → Option Obj) (as : List Addr) : List Addr := as.flatMap fun a => match g a with
  | some o => f o
  | none => []
def asP (g : Addr → Option Obj) : List Addr :=
  let l1 := next refsN g [mainGlobals]
  let l2 := next refsF g l1
  let l3 := next refsN g l2
  let l4 := next refsF g l3
  mainGlobals :: cStatics :: (l1 ++ (l2 ++ (l3 ++ l4)))
abbrev AlP : Type := Bool × List He.FnW
def obsP (fa : List (PySem.W.Frag → Bool)) (fn : List He.DefD) (K : PySem.W.Frag) : AlP := ((fa.all fun f => f K) && fn.all fun d => d.ok K, fn.map fun d => He.fnW K d.at_)
def valP (fn : List He.DefD) : AlP := (true, fn.map He.DefD.val)
def SaysP (fa : List (PySem.W.Frag → Bool)) (fn : List He.DefD) (K : PySem.W.Frag) : Prop := obsP fa fn K = valP fn
def obsPG (fa : List (PySem.W.Frag → Bool)) (fn : List He.DefD) (g : Addr → Option Obj) : AlP := obsP fa fn (He.frG g (asP g))
def hookP (fa : List (PySem.W.Frag → Bool)) (fn : List He.DefD) : PySem.W.Hook where
  α := AlP
  obs := fun s => obsPG fa fn s.heap.get?
  val := fun _ => valP fn
  says := fun _ h => ∃ K : PySem.W.Frag, K.In h ∧ SaysP fa fn K
  of := fun _ _ e => ⟨_, He.frG_in, e⟩
  keeps := fun _ _ _ ⟨K, hK, c⟩ k => ⟨K, PySem.W.Frag.In.keeps hK k, c⟩
theorem obsPG_eq {fa : List (PySem.W.Frag → Bool)} {fn : List He.DefD} {g : Addr → Option Obj} {s : Shared} (h : ∀ a, g a = s.heap.get? a) : obsPG fa fn g = (hookP fa fn).obs s := by
  have e : g = s.heap.get? := funext h
  rw [e] <;> rfl
section
variable {fa : List (PySem.W.Frag → Bool)} {fn : List He.DefD} {K : PySem.W.Frag}
theorem SaysP.fact (c : SaysP fa fn K) (i : Nat) {f : PySem.W.Frag → Bool} (h : fa[i]? = some f := by rfl) : f K = true := by
  have c1 := (He.ba (show ((fa.all fun f => f K) && fn.all fun d => d.ok K) = true from congrArg (fun z : AlP => z.1) c)).1
  exact List.all_eq_true.mp c1 f (List.mem_of_getElem? h)
theorem SaysP.def_ (c : SaysP fa fn K) (i : Nat) {d : He.DefD} (h : fn[i]? = some d := by rfl) : ∃ fd, FunD K d.name d.qual d.params d.body d.scope (d.dvs K) (d.kws K) (He.fAd K d.at_) fd := by
  have c2 := (He.ba (show ((fa.all fun f => f K) && fn.all fun d => d.ok K) = true from congrArg (fun z : AlP => z.1) c)).2
  have e : fn.map (fun d => He.fnW K d.at_) = fn.map He.DefD.val := congrArg (fun z : AlP => z.2) c
  have e2 : (fn.map fun d => He.fnW K d.at_)[i]? = (fn.map He.DefD.val)[i]? := by rw [e]
  rw [List.getElem?_map, List.getElem?_map, h] at e2
  exact He.DefD.funD (Option.some.inj e2) (List.all_eq_true.mp c2 d (List.mem_of_getElem? h))
end
end Gh

/-! H1: the head's facts, with the tables of the defs that make lambdas -/
namespace Gh
open PySem PySem.Spec PyProof.Rows L2
/-- the code of the module's def x -/
def codeOf (K : PySem.W.Frag) (x : Str) : Option Addr := match K.lookup (He.ga K x) with
  | some ⟨_, _, .func fd, _⟩ => (match fd.code with
    | .ref c => some c
    | _ => none)
  | _ => none
def hdB (o : Obj) : Option Addr := match o.cls with
  | .type t => (match o.data with
    | .fields vs => (match (vs[11]? : Option Value) with
      | some (Value.ref P) => (match vs.getD 18 .none with
        | .str _ _ => (match vs.getD 7 .none with
          | .int _ _ => (match vs.getD 9 .none with
            | .bool _ => (match vs.getD 10 .none with
              | .int _ _ => if t = "code" then some P else none
              | _ => none)
            | _ => none)
          | _ => none)
        | _ => none)
      | _ => none)
    | _ => none)
  | _ => none
def emptyTab (o : Obj) : Bool := match o with
  | ⟨.none, none, .fields ps, sl⟩ => ps.toList.isEmpty && sl.toList.isEmpty
  | _ => false
def tabB (g : Addr → Option Obj) (K : PySem.W.Frag) (x : Str) : Bool := match codeOf K x with
  | some c => (match g c with
    | some o => (match hdB o with
      | some P => !(c == P) && ((match g P with
        | some t => emptyTab t
        | none => false) && (match K.lookup P with
        | some _ => false
        | none => true))
      | none => false)
    | none => false)
  | none => false
def TabOk (h : Heap) (K : PySem.W.Frag) (x : Str) : Prop := ∃ c P, codeOf K x = some c ∧ PySem.W.CodeHd h c P ∧ h.get? P = some { cls := .none, data := .fields #[] } ∧ K.lookup P = none
theorem tabB_ok {h : Heap} {K : PySem.W.Frag} {x : Str} (e : tabB h.get? K x = true) : TabOk h K x := by
  unfold tabB at e
  split at e
  · rename_i c hc
    split at e
    · rename_i o ho
      split at e
      · rename_i P hP
        obtain ⟨e1, e2⟩ := Bool.and_eq_true_iff.mp e
        obtain ⟨e3, e4⟩ := Bool.and_eq_true_iff.mp e2
        refine ⟨c, P, hc, ?_, ?_, ?_⟩
        · unfold hdB at hP
          split at hP
          · rename_i t h1
            split at hP
            · rename_i vs h2
              split at hP
              · rename_i P' q2
                split at hP
                · rename_i a1 b1 q3
                  split at hP
                  · rename_i a2 b2 q4
                    split at hP
                    · rename_i a3 q5
                      split at hP
                      · rename_i a4 b4 q6
                        split at hP
                        · rename_i q1
                          cases hP
                          refine ⟨o, vs, _, _, _, _, _, _, _, ho, ?_, h2, q2, ?_, q3, q4, q5, q6, ?_⟩
                          · rw [h1, q1]
                          · rw [Array.getD_eq_getD_getElem?, q2]; rfl
                          · intro z; rw [z] at e1; simp at e1
                        · cases hP
                      · cases hP
                    · cases hP
                  · cases hP
                · cases hP
              · cases hP
            · cases hP
          · cases hP
        · split at e3
          · rename_i t ht
            unfold emptyTab at e3
            split at e3
            · rename_i ps sl
              obtain ⟨z1, z2⟩ := Bool.and_eq_true_iff.mp e3
              have y1 : ps = #[] := by
                have := List.isEmpty_iff.mp z1
                exact Array.toList_eq_nil_iff.mp this
              have y2 : sl = #[] := by
                have := List.isEmpty_iff.mp z2
                exact Array.toList_eq_nil_iff.mp this
              rw [ht, y1, y2]
            · cases e3
          · cases e3
        · split at e4
          · cases e4
          · assumption
      · cases e
    · cases e
  · cases e
theorem TabOk.keeps {h h' : Heap} {K : PySem.W.Frag} {x : Str} (t : TabOk h K x) (k : ∀ b o, h.get? b = some o → h'.get? b = some o) : TabOk h' K x := by
  obtain ⟨c, P, hc, ⟨o, vs, a1, a2, a3, a4, a5, a6, a7, ho, r⟩, hP, n⟩ := t
  exact ⟨c, P, hc, ⟨o, vs, a1, a2, a3, a4, a5, a6, a7, k _ _ ho, r⟩, k _ _ hP, n⟩
abbrev AlQ : Type := Bool × List He.FnV × List He.FnW
structure Plan where
  fa : List (PySem.W.Frag → Bool)
  fn : List He.FnD
  dn : List He.DefD
  tb : List Str
def Plan.obs (p : Plan) (g : Addr → Option Obj) (K : PySem.W.Frag) : AlQ := ((p.fa.all fun f => f K) && ((p.fn.all fun d => (He.Fa.code d.at_ d.qual).ok K && PySem.W.keepIn K (.ref (He.fAd K d.at_))) && ((p.dn.all fun d => d.ok K) && p.tb.all fun x => tabB g K x)), p.fn.map fun d => He.fnObs K d.at_, p.dn.map fun d => He.fnW K d.at_)
def Plan.val (p : Plan) : AlQ := (true, p.fn.map He.FnD.val, p.dn.map He.DefD.val)
def Plan.obsG (p : Plan) (g : Addr → Option Obj) : AlQ := p.obs g (He.frG g (asP g))
structure Plan.Says (p : Plan) (h : Heap) (K : PySem.W.Frag) : Prop where
  fact : ∀ f ∈ p.fa, f K = true
  fn : ∀ d ∈ p.fn, (∃ oc od osl kV doc pm an cdv ct, K.lookup (He.fAd K d.at_) = some ⟨oc, od, .func (PySem.W.fnOf d.name d.qual d.params d.body d.scope .none kV doc pm an cdv ct), osl⟩ ∧ PySem.W.codeIn K cdv d.qual = true) ∧ PySem.W.keepIn K (.ref (He.fAd K d.at_)) = true
  dn : ∀ d ∈ p.dn, ∃ fd, FunD K d.name d.qual d.params d.body d.scope (d.dvs K) (d.kws K) (He.fAd K d.at_) fd
  tb : ∀ x ∈ p.tb, TabOk h K x
theorem map_at {α β : Type} {f g : α → β} : ∀ {l : List α}, l.map f = l.map g → ∀ x ∈ l, f x = g x
  | [], _, x, hx => nomatch hx
  | a :: r, e, x, hx => by
    injection e with e1 e2
    rcases List.mem_cons.mp hx with rfl | hx
    · exact e1
    · exact map_at e2 x hx
theorem Plan.says_of {p : Plan} {h : Heap} {K : PySem.W.Frag} (e : p.obs h.get? K = p.val) : p.Says h K := by
  have e0 : _ = true := congrArg (fun z : AlQ => z.1) e
  have e1 : p.fn.map (fun d => He.fnObs K d.at_) = p.fn.map He.FnD.val := congrArg (fun z : AlQ => z.2.1) e
  have e2 : p.dn.map (fun d => He.fnW K d.at_) = p.dn.map He.DefD.val := congrArg (fun z : AlQ => z.2.2) e
  obtain ⟨b1, b⟩ := He.ba e0
  obtain ⟨b2, b⟩ := He.ba b
  obtain ⟨b3, b4⟩ := He.ba b
  refine ⟨fun f hf => List.all_eq_true.mp b1 f hf, fun d hd => ?_, fun d hd => He.DefD.funD (map_at e2 d hd) (List.all_eq_true.mp b3 d hd), fun x hx => tabB_ok (List.all_eq_true.mp b4 x hx)⟩
  obtain ⟨c1, c2⟩ := He.ba (List.all_eq_true.mp b2 d hd)
  exact ⟨He.fn_ok (map_at e1 d hd) c1, c2⟩
def Plan.hook (p : Plan) : PySem.W.Hook where
  α := AlQ
  obs := fun s => p.obsG s.heap.get?
  val := fun _ => p.val
  says := fun _ h => ∃ K : PySem.W.Frag, K.In h ∧ p.Says h K
  of := fun _ _ e => ⟨_, He.frG_in, Plan.says_of e⟩
  keeps := fun _ _ _ ⟨K, hK, c⟩ k => ⟨K, PySem.W.Frag.In.keeps hK k, ⟨c.fact, c.fn, c.dn, fun x hx => (c.tb x hx).keeps k⟩⟩
theorem Plan.obsG_eq {p : Plan} {g : Addr → Option Obj} {s : Shared} (h : ∀ a, g a = s.heap.get? a) : p.obsG g = p.hook.obs s := by
  have e : g = s.heap.get? := funext h
  rw [e] <;> rfl
end Gh
namespace Gh
open PySem PySem.Spec PyProof.Rows L2
theorem Plan.Says.factAt {p : Plan} {h : Heap} {K : PySem.W.Frag} (c : p.Says h K) (i : Nat) {f : PySem.W.Frag → Bool} (e : p.fa[i]? = some f := by rfl) : f K = true := c.fact f (List.mem_of_getElem? e)
theorem Plan.Says.fnAt {p : Plan} {h : Heap} {K : PySem.W.Frag} (c : p.Says h K) (i : Nat) {d : He.FnD} (e : p.fn[i]? = some d := by rfl) : (∃ oc od osl kV doc pm an cdv ct, K.lookup (He.fAd K d.at_) = some ⟨oc, od, .func (PySem.W.fnOf d.name d.qual d.params d.body d.scope .none kV doc pm an cdv ct), osl⟩ ∧ PySem.W.codeIn K cdv d.qual = true) ∧ PySem.W.keepIn K (.ref (He.fAd K d.at_)) = true := c.fn d (List.mem_of_getElem? e)
theorem Plan.Says.fun_ {p : Plan} {h : Heap} {K : PySem.W.Frag} (c : p.Says h K) (i : Nat) {x : Str} {q : Str} {at_ : Str × Option Str} {st : Stmt} (e : p.fn[i]? = some ⟨at_, x, q, defArgs st, defBody st, defScope st⟩ := by rfl) : ∃ fd, Fun K x q st (He.fAd K at_) fd := by
  obtain ⟨⟨oc, od, osl, kV, doc, pm, an, cdv, ct, l, c1⟩, k⟩ := c.fnAt i e
  exact ⟨_, fun_mk l c1 k⟩
end Gh

/-! O1: owned instances: fields, making, methods by the class, isinstance with own classes -/
namespace Gh
open PySem PySem.Spec PyProof.Rows L2
def putG (f : Str) (d : D) : List (Str × D) → List (Str × D)
  | [] => [(f, d)]
  | (g, x) :: r => if g = f then (g, d) :: r else (g, x) :: putG f d r
theorem ins_look {K : Fg} {h : GH} {H : Hp} {f : Str} {d : D} : ∀ {fs : List (Str × D)} {vs : List V}, Dvs K h H vs (fs.map (·.2)) → fs.lookup f = some d → ∃ v, ((fs.map (·.1)).zip vs).lookup f = some v ∧ Dv K h H v d
  | [], _, _, e => by cases e
  | (g, x) :: r, _, .cons (v := v) a t, e => by
    show ∃ v', List.lookup f ((g, v) :: (r.map (·.1)).zip _) = some v' ∧ _
    by_cases z : (f == g) = true
    · simp only [List.lookup, z] at e ⊢
      cases e
      exact ⟨v, rfl, a⟩
    · have z : (f == g) = false := by simpa using z
      simp only [List.lookup, z] at e ⊢
      exact ins_look t e
theorem ins_lookN {f : Str} : ∀ {fs : List (Str × D)} {vs : List V}, fs.lookup f = none → ((fs.map (·.1)).zip vs).lookup f = none
  | [], _, _ => rfl
  | (g, x) :: r, [], _ => rfl
  | (g, x) :: r, v :: vs, e => by
    show List.lookup f ((g, v) :: (r.map (·.1)).zip _) = none
    by_cases z : (f == g) = true
    · simp only [List.lookup, z] at e; cases e
    · have z : (f == g) = false := by simpa using z
      simp only [List.lookup, z] at e ⊢
      exact ins_lookN e
theorem ins_put {K : Fg} {h : GH} {H : Hp} {f : Str} {d : D} {y : V} (dy : Dv K h H y d) : ∀ {fs : List (Str × D)} {vs : List V}, Dvs K h H vs (fs.map (·.2)) → ∃ ws, putF f y ((fs.map (·.1)).zip vs) = ((putG f d fs).map (·.1)).zip ws ∧ Dvs K h H ws ((putG f d fs).map (·.2))
  | [], _, .nil => ⟨[y], rfl, .cons dy .nil⟩
  | (g, x) :: r, _, .cons (v := v) (vs := vs) a t => by
    by_cases z : g = f
    · refine ⟨y :: vs, ?_, ?_⟩
      · show putF f y ((g, v) :: (r.map (·.1)).zip vs) = _
        unfold putF putG
        rw [if_pos z, if_pos z]
        rfl
      · unfold putG
        rw [if_pos z]
        exact .cons dy t
    · obtain ⟨ws, e1, e2⟩ := ins_put dy t
      refine ⟨v :: ws, ?_, ?_⟩
      · show putF f y ((g, v) :: (r.map (·.1)).zip vs) = _
        unfold putF putG
        rw [if_neg z, if_neg z, e1]
        rfl
      · unfold putG
        rw [if_neg z]
        exact .cons a e2
section
variable {X : Cx} {An : AN} {a b e o v : Expr} {es : List Expr} {ga gb go gv : gTE} {gas : gTA} {pos pos' p : Pos}
/-! ### fields -/
/-- e.f, a field of an owned instance, of a class of F -/
def gFld (F : Addr → Prop) (f : Str) (ga : gTE) : gTE := fun s h P => ga s h fun d h1 => ∃ q C fs c, d = .ref q ∧ h1 q = some (.ins C fs) ∧ F C ∧ fs.lookup f = some c ∧ P c h1
theorem e_fld {F : Addr → Prop} {f : Str} (hF : ∀ C, F C → Cls X.K C ∧ NoAttr X.K C f) (he : PE X e (gE X.K An ga)) (hb : attributeBase e f X.env (eval e X.env) = eval e X.env := by rfl) : PE X (.Attribute e f pos) (gE X.K An (gFld F f ga)) :=
  (pe_fld he hb).imp fun σ H Q ⟨s, h, P, re, l, g, k⟩ => by
    refine ⟨s, h, _, re, l, g, fun x H1 d h1 s1 re1 dx ⟨q, C, fs, c, ed, hq, hC, hl, pp⟩ => ?_⟩
    subst ed
    cases dx
    obtain ⟨dx, vs, hH, rs⟩ := re1 q _ hq
    obtain ⟨u, hu, du⟩ := ins_look rs hl
    exact ⟨q, C, dx, _, u, rfl, hH, (hF C hC).1, (hF C hC).2, hu, k u H1 c h1 s1 re1 du pp⟩
/-- o.f = v -/
def sFl (F : Addr → Prop) (f : Str) (go gv : gTE) : gTS := fun N s h => gv s h fun c h1 => go s h1 fun d h2 => ∃ q C fs, d = .ref q ∧ h2 q = some (.ins C fs) ∧ F C ∧ fs.length < 1000 ∧ N.nx s (put h2 q (.ins C (putG f c fs)))
theorem s_fld {F : Addr → Prop} {f : Str} (hF : ∀ C, F C → Cls X.K C ∧ NoAttr X.K C f) (ho : PE X o (gE X.K An go)) (hv : PE X v (gE X.K An gv)) (hs : swapsWith v (some (.Attribute o f pos')) pos.line X.env = pure false := by rfl) :
    PS X (.Assign [.Attribute o f pos'] v pos) (gS X.K An (sFl F f go gv)) := (ps_fld ho hv hs).imp fun De σ H ⟨s, h, N, re, l, g, m⟩ => by
  refine ⟨s, h, _, re, l, g, fun y H1 c h1 s1 re1 dy g1 => ?_⟩
  refine ⟨s, h1, _, re1, l.mono s1, g1, fun x H2 d h2 s2 re2 dx ⟨q, C, fs, ed, hq, hC, hl, pp⟩ => ?_⟩
  subst ed
  cases dx
  obtain ⟨dx, vs, hH, rs⟩ := re2 q _ hq
  have hlen : ((fs.map (·.1)).zip vs).length < 1000 := by
    have e := rs.length
    rw [List.length_map] at e
    rw [List.length_zip, List.length_map]; omega
  refine ⟨q, C, dx, _, rfl, hH, (hF C hC).1, (hF C hC).2, hlen, ?_⟩
  obtain ⟨ws, e1, e2⟩ := ins_put (f := f) (dy.mono s2) rs
  have st : Step h2 H2 (put h2 q (GO.ins C (putG f c fs))) (upd H2 q (.ins C dx (putF f y ((fs.map (·.1)).zip vs)))) := Step.set (by rw [hq]; simp)
  refine m.nx σ _ s _ ((s1.trans s2).trans st) (re2.put st ?_) (l.mono ((s1.trans s2).trans st)) pp
  refine ⟨dx, ws, ?_, e2.mono st⟩
  rw [upd_same, e1]
/-! ### making -/
/-- a class that is made by its name -/
def Mkc (P : Program) (w : World) (K : Fg) (mg : Str → Option Value) (base : Heap) (k : Nat) (x : Str) (C : Addr) (S : GSpec) : Prop :=
  ∃ f : Addr, FnR P w K mg base CX0 k f (GSP K S) ∧ Mk K C f ∧ mg x = some (.ref C)
def gMake (C : Addr) (S : GSpec) (ga : gTA) : gTE := fun s h P => ga s h fun ds h1 => ∀ q, h1 q = none → S (.ref q :: ds) (put h1 q (.ins C [])) fun d h2 => d = .non ∧ P (.ref q) h2
theorem run_makeR {CX : CXT} {k : Nat} {C f : Addr} {sp : Sp} {E : XK} {pins : List (Addr × Obj)} {σ : L2.St} {H : Hp} {s : Shared} {Q : VK} {us : List Value} {vs : List V} (M : Mk X.K C f) (F : FnR X.prog X.w X.K X.mg X.base CX k f sp) (hr : Room (k + 1) X.A) (hx : Passes CX X E) (I : Inv X pins σ H s) (r : Vals vs us)
    (h : ∀ x dx, H x = none → H dx = none → dx ≠ x → sp (V.ref x :: vs) (upd (upd H dx (.own x)) x (.ins C dx [])) (fun v H2 => v = .non ∧ Q (.ref x) H2) E) : wpAny (model X.prog X.w) X.A (call (.ref C) us) (EP X pins σ Q) X.xe s := by
  have hq := h (s.heap.objs.size + 1) s.heap.objs.size (I.hok.fresh (Nat.le_succ _)) (I.hok.fresh (Nat.le_refl _)) (Nat.ne_of_lt (Nat.lt_succ_self _))
  have I2 := Inv.made (C := C) I
  have r2 : Vals (V.ref (s.heap.objs.size + 1) :: vs) (Value.ref (s.heap.objs.size + 1) :: us) := .cons rfl r
  refine wpAny_call (make_map (f := f) I.kIn M.makes M.init (beq_iff_eq.mp M.fn) (codeAny_mono (F _ X.stack _ _ (Value.ref (s.heap.objs.size + 1) :: us) _ _ E (hr.make C us []) (I2.env0.make C us []) r2 hq) fun r s' hq' => ?_))
  cases r with
  | error e => exact hx pins σ _ _ e s' I2 hq'
  | ok fl =>
    cases fl with
    | ret u =>
      obtain ⟨v, H', I3, rv, ev, q3⟩ := I2.after hq'
      subst ev
      exact ⟨rv, ⟨V.ref (s.heap.objs.size + 1), H', I3, rfl, q3⟩⟩
    | next => exact False.elim hq'
    | brk => exact False.elim hq'
    | cont => exact False.elim hq'
theorem make_of {K : Fg} {C : Addr} {S : GSpec} {h1 : GH} {H1 : Hp} {ds : List D} {vs : List V} {P : GP} {Q : VK} {E : XK} {h : GH} {H : Hp} (s1 : Step h H h1 H1) (re1 : Rel K h1 H1) (dv : Dvs K h1 H1 vs ds)
    (g1 : ∀ q, h1 q = none → S (.ref q :: ds) (put h1 q (.ins C [])) fun d h2 => d = .non ∧ P (.ref q) h2) (k : ∀ v H' d h', Step h H h' H' → Rel K h' H' → Dv K h' H' v d → P d h' → Q v H') :
    ∀ x dx, H1 x = none → H1 dx = none → dx ≠ x → GSP K S (V.ref x :: vs) (upd (upd H1 dx (.own x)) x (.ins C dx [])) (fun v H2 => v = .non ∧ Q (.ref x) H2) E := by
  intro x dx nx nd ne
  have n2 : (upd H1 dx (.own x)) x = none := by rw [upd_ne (Ne.symm ne)]; exact nx
  have t1 : Step h1 H1 h1 (upd H1 dx (.own x)) := Step.new nd
  have t2 : Step h1 (upd H1 dx (.own x)) (put h1 x (.ins C [])) (upd (upd H1 dx (.own x)) x (.ins C dx [])) := Step.newO n2
  have re2 : Rel K h1 (upd H1 dx (.own x)) := re1.new nd
  have re3 : Rel K (put h1 x (.ins C [])) (upd (upd H1 dx (.own x)) x (.ins C dx [])) := re2.put t2 ⟨dx, [], upd_same, .nil⟩
  refine ⟨.ref x :: ds, _, _, re3, .cons (.ref x) ((dv.mono t1).mono t2), g1 x (re1.free nx), fun v H' d h' s2 re' dv' ⟨ed, pp⟩ => ?_⟩
  subst ed
  cases dv'
  exact ⟨rfl, k _ H' _ h' (((s1.trans t1).trans t2).trans s2) re' (.ref x) pp⟩
theorem e_make {k j : Nat} {x : Str} {C : Addr} {S : GSpec} (c : Mkc X.prog X.w X.K X.mg X.base k x C S) (hr : Room j X.A) (hk : k + 1 ≤ j) (ha : PA X (e :: es) (gA X.K An gas)) (hg : Gl X x := by rfl) (hdb : (x == ("__debug__" : Str)) = false := by decide)
    (he : starEach (e :: es) X.env = (false, eval e X.env) :: starEach es X.env := by rfl) (hpl : (backTo pos (starEach es X.env)).any (·.1) = false := by rfl) :
    PE X (.Call (.Name x p) (e :: es) [] pos) (gE X.K An (gMake C S gas)) := by
  obtain ⟨f, F, M, hm⟩ := c
  refine ⟨fun pins s σ H Q I h => ?_⟩
  refine wpAny_Call_Name_kw (ld_glob I hg hm ?_ hdb)
  obtain ⟨sl, h0, P, re, l, g, kk⟩ := h
  refine PySem.W.callWith_K (h₀ := X.base) I.ok.mod.kin M.kp (thn (ha.run pos pins s σ H (fun vs H1 => ∀ x dx, H1 x = none → H1 dx = none → dx ≠ x → GSP X.K S (V.ref x :: vs) (upd (upd H1 dx (.own x)) x (.ins C dx [])) (fun v H2 => v = .non ∧ Q (.ref x) H2) E0) I
    ⟨sl, h0, _, re, l, g, fun vs H1 ds h1 s1 re1 dv g1 => make_of s1 re1 dv g1 kk⟩) fun us s1 ⟨vs, H1, I1, r, q⟩ => ⟨I1.kIn, ?_⟩) he hpl
  exact run_makeR M F (hr.mono hk) pass0 I1 r q
/-! ### methods, by the class -/
def Mtc (P : Program) (w : World) (K : Fg) (mg : Str → Option Value) (base : Heap) (k : Nat) (C : Addr) (m : Str) (S : GSpec) : Prop :=
  ∃ f : Addr, FnR P w K mg base CX0 k f (GSP K S) ∧ Cls K C ∧ Meth K C m f
/-- o.m(): sel tells the method's spec by the class -/
def gMeth (sel : Addr → GSpec → Prop) (m : Str) (go : gTE) (ga : gTA) : gTE := fun s h P => go s h fun d h1 => ∃ q C fs S, d = .ref q ∧ h1 q = some (.ins C fs) ∧ fs.lookup m = none ∧ sel C S ∧ ga s h1 fun ds h2 => S (d :: ds) h2 P
theorem e_meth0 {k j : Nat} {m : Str} {sel : Addr → GSpec → Prop} {apos : Pos} {pl : Sem Bool} (c : ∀ C S, sel C S → Mtc X.prog X.w X.K X.mg X.base k C m S) (hr : Room j X.A) (hk : k ≤ j) (ho : PE X o (gE X.K An go))
    (ht : eval (.Call (.Attribute o m apos) [] [] pos) X.env = (do
      let ov ← eval o X.env
      standAt apos.atName
      let (f, first) ← holding [ov] (getMethod ov m pl)
      callWith pos f first (backTo pos (starEach [] X.env)) (backToKw pos (keywordEach [] X.env))) := by rfl) :
    PE X (.Call (.Attribute o m apos) [] [] pos) (gE X.K An (gMeth sel m go aNil)) := by
  refine ⟨fun pins s σ H Q I h => ?_⟩
  obtain ⟨sl, h0, P, re, l, g, kk⟩ := h
  refine PySem.W.methodCall_KW (pl := pl) (thn (ho.run pins s σ H (fun x H1 => ∃ q C dx fs S, x = .ref q ∧ H1 q = some (.ins C dx fs) ∧ fs.lookup m = none ∧ sel C S ∧ GSP X.K S [x] H1 Q E0) I ⟨sl, h0, _, re, l, g, fun x H1 d h1 s1 re1 dx ⟨q, C, fs, S, ed, hq, hl, hs, g1⟩ => ?_⟩) fun u s1 ⟨x, H1, I1, rx, q, C, dx, fs, S, ex, ea, l, hs, q1⟩ => ?_) ht
  · subst ed
    cases dx
    obtain ⟨dx, vs, hH, rs⟩ := re1 q _ hq
    exact ⟨q, C, dx, _, S, rfl, hH, ins_lookN hl, hs, [.ref q], h1, P, re1, .cons (.ref q) .nil, g1, fun v H' d h' s2 re' dv' pp => kk v H' d h' (s1.trans s2) re' dv' pp⟩
  · subst ex
    obtain rfl : u = Value.ref q := rx
    obtain ⟨f, F, cl, mt⟩ := c C S hs
    refine getmeth_ok I1 ea cl mt l ?_
    exact PySem.W.callWith_K0 (first := [.ref q]) I1.kIn mt.kp (wpAny_call (run_fnR (us := [.ref q]) (vs := [.ref q]) F (hr.mono hk) pass0 I1 (.cons rfl .nil) q1))
/-! ### isinstance -/
structure InsT (K : Fg) (C : Addr) : Prop where
  cl : Cls K C
  ha : PySem.W.findIn K (.ref C) "__class__" = some (some (.builtin "object.__class__"))
  hn : PySem.W.specialIn K (.builtin "object.__class__") "__get__" = some (some (.builtin "getset_descriptor.__get__"))
  htk : PySem.W.takesIn K (.builtin "object.__class__") = some true
  hm : PySem.W.mroIn K C (.type "object") = some true
def RIsiO (isi : Addr → Addr → Bool → Prop) : RC2 := fun h ds c => ∃ q C fs T b, ds = [.ref q, .ref T] ∧ h q = some (.ins C fs) ∧ isi C T b ∧ c = .bl b
theorem lIsiO {K : Fg} {isi : Addr → Addr → Bool → Prop} (hi : ∀ C T b, isi C T b → InsT K C ∧ PySem.W.kitOne K (.ref C) (.ref T) = some b) : CLL K (rIsi K) (RIsiO isi) := by
  intro vs H h ds c Q re dvx hr k
  obtain ⟨q, C, fs, T, b, rfl, hq, hb, rfl⟩ := hr
  obtain ⟨v, v', rfl, dv, dw⟩ := dvs2 dvx
  cases dv
  cases dw
  obtain ⟨dx, ws, hH, rs⟩ := re q _ hq
  obtain ⟨⟨cl, ha, hn, htk, hm⟩, hk⟩ := hi C T b hb
  exact ⟨_, _, _, _, b, rfl, .own T, .base (.ins hH cl ha hn htk hm), hk, k _ H (Step.refl h H) re (.bl _)⟩
theorem e_isiO {isi : Addr → Addr → Bool → Prop} (hi : ∀ C T b, isi C T b → InsT X.K C ∧ PySem.W.kitOne X.K (.ref C) (.ref T) = some b) (hm : X.mg "isinstance" = none) (ha : PA X [a, b] (gA X.K An gas)) (hg : Gl X "isinstance" := by rfl) (he : starEach [a, b] X.env = (false, eval a X.env) :: starEach [b] X.env := by rfl) (hpl : (backTo pos (starEach [b] X.env)).any (·.1) = false := by rfl) : PE X (.Call (.Name "isinstance" p) [a, b] [] pos) (gE X.K An (gCB (RIsiO isi) gas)) :=
  e_cb call_isi (lIsiO hi) hm (by decide +kernel) ha hg (by decide) (by decide) he hpl
theorem e_cls {x : Str} {C : Addr} (hm : X.mg x = some (.ref C)) (hg : Gl X x := by rfl) (hd : (x == ("__debug__" : Str)) = false := by decide) : PE X (.Name x pos) (gE X.K An (gC (.ref C))) :=
  e_glob (v := .ref C) hm rfl (fun _ _ => .ref C) hg hd
end
end Gh

/-! O2: super().m(..) in a method's body -/
namespace Gh
open PySem PySem.Spec PyProof.Rows L2 NdefX
/-- an expression, where the frame on top is that of the def with the body b -/
structure PEA (X : Cx) (b : List Stmt) (e : Expr) (t : TE) : Prop where
  run : ∀ (pins : List (Addr × Obj)) (s : Shared) (σ : L2.St) (H : Hp) (Q : VK), Inv X pins σ H s → t σ H Q → PySem.wpAt (model X.prog X.w) X.A (.func b X.env) (eval e X.env) (EP X pins σ Q) X.xe s
structure PBA (X : Cx) (b : List Stmt) (sts : List Stmt) (t : TS) : Prop where
  run : ∀ (pins : List (Addr × Obj)) (s : Shared) (σ : L2.St) (H : Hp) (De : Ends), Inv X pins σ H s → t De σ H → PySem.wpAt (model X.prog X.w) X.A (.func b X.env) (execs sts X.env) (SP X pins De) X.xe s
theorem PEA.imp {X : Cx} {b : List Stmt} {e : Expr} {t t' : TE} (h : PEA X b e t) (k : ∀ σ H Q, t' σ H Q → t σ H Q) : PEA X b e t' := ⟨fun pins s σ H Q I q => h.run pins s σ H Q I (k σ H Q q)⟩
theorem PBA.imp {X : Cx} {b sts : List Stmt} {t t' : TS} (h : PBA X b sts t) (k : ∀ De σ H, t' De σ H → t De σ H) : PBA X b sts t' := ⟨fun pins s σ H De I q => h.run pins s σ H De I (k De σ H q)⟩
/-- what is asked of a def that says super() -/
structure SupOk (P : Program) (K : Fg) (mg : Str → Option Value) (F : NF) (f D : Addr) (fd : FuncData) (slf : Str) : Prop where
  at_ : ∃ oc od osl, K.lookup f = some ⟨oc, od, .func fd, osl⟩
  par : ∃ ar : Arg, (fd.params.posonlyargs ++ fd.params.args).head? = some ar ∧ ar.arg = slf
  code : ∃ (ccl : Value) (cdd : Option Addr) (vs : Array Value) (ccs : Array (Option Value)) (file : Str) (tf : Tok), K.lookup F.c = some ⟨ccl, cdd, .fields vs, ccs⟩ ∧ vs[2]? = some (.str file tf) ∧ ((P.main.file : Str) == file) = true
  cell : ∃ (cc : Addr) (cl : Value) (cld : Option Addr) (csl : Array (Option Value)), F.cl = [(("__class__" : Str), cc)] ∧ K.lookup cc = some ⟨cl, cld, .cell (some (.ref D)), csl⟩
  cls : ∃ cdD, PySem.W.clsIn K D = some cdD
  top : (P.main.scope.names.lookup ("super" : Str)).isSome = false
  glob : mg "super" = none
  any : PySem.W.nsIn K cStatics "thirdparty.any" = some none
/-- super().m, of an object of a class of CC: the def at g -/
structure SupM (K : Fg) (CC : Addr → Prop) (D : Addr) (m : Str) (g : Addr) : Prop where
  sub : ∀ C, CC C → PySem.W.mroIn K C (.ref D) = some true ∧ PySem.W.ks_superIn K C D m = some (some (.ref g))
  ty : PySem.W.typeIn K (.ref g) = some (.type "function")
  fi : PySem.W.fnIn K g = true
def tSup (i : Nat) (CC : Addr → Prop) (sp : Sp) (E : XK) (t : TA) : TE := fun σ H Q => ∃ x C dx fs, σ[i]? = some (some (.ref x)) ∧ H x = some (.ins C dx fs) ∧ CC C ∧ t σ H fun vs H2 => sp (.ref x :: vs) H2 Q E
section
variable {X : Cx} {b : List Stmt} {F : NF} {f D g : Addr} {fd : FuncData} {self m : Str} {i k : Nat} {CC : Addr → Prop} {sp : Sp} {E : XK} {p0 p1 apos pos : Pos} {e : Expr} {es : List Expr} {t : TA} {pl : Sem Bool}
/-- super() and the method, bound -/
theorem sup_get {pins : List (Addr × Obj)} {s : Shared} {σ : L2.St} {H : Hp} {x C dx : Addr} {fs : List (Str × V)} {R : Value → Shared → Prop} {whole : Sem Value} (S : SupOk X.prog X.K X.mg F f D fd self) (M : SupM X.K CC D m g) (hN : X.N[i]? = some self) (hks : X.env.kindOf "super" = some .globalImplicit)
    (hkc : X.env.kindOf "__class__" = some .free) (hka : X.env.kindOf self = some .local) (hfu : X.env.func = some f) (hco : X.env.code = .ref F.c) (hce : X.env.cells = F.cl) (hm : (m == ("__class__" : Str)) = false) (I : Inv X pins σ H s) (hs : σ[i]? = some (some (.ref x))) (hx : H x = some (.ins C dx fs)) (hC : CC C)
    (h : ∀ so s1, Inv X pins σ H s1 → s1.heap.get? so = some (PySem.W.ks_superObj D x C) → R (.ref so) s1) :
    PySem.wpAt (model X.prog X.w) X.A (.func b X.env) (attributeBase (.Call (.Name "super" p0) [] [] p1) m X.env whole) R X.xe s := by
  obtain ⟨oc, od, osl, hat⟩ := S.at_
  obtain ⟨ar, hp, har⟩ := S.par
  obtain ⟨ccl, cdd, vs, ccs, file, tf, hcode, hvs, hfile⟩ := S.code
  obtain ⟨cc, cl, cld, csl, hcl, hcell⟩ := S.cell
  obtain ⟨cdD, hD⟩ := S.cls
  have KX := I.kIn
  obtain ⟨oD, hD1, hD2⟩ : ∃ oD, s.heap.get? D = some oD ∧ oD.data = .cls cdD := by
    unfold PySem.W.clsIn at hD
    split at hD
    · rename_i c d cd' sl ho
      cases hD
      exact ⟨_, KX _ _ ho, rfl⟩
    · cases hD
  obtain ⟨mA, O, _⟩ := ins_get I.hok hx
  obtain ⟨od2, J, _⟩ := O.look
  obtain ⟨mm, hn, hl⟩ := I.loc
  obtain ⟨u, ru, lu⟩ := hl i self (.ref x) hN hs (.inl hka)
  obtain rfl : u = Value.ref x := ru
  have hself : mm self = some (.ref x) := by
    rcases lu with ⟨_, z⟩ | ⟨z, _⟩
    · exact z
    · rcases z with z | z <;> rw [hka] at z <;> cases z
  refine ks_wpAt_super_base (env := X.env) hks hkc hm hfu (KX _ _ hat) rfl hp hco (KX _ _ hcode) rfl hvs hfile S.top ?_
  obtain ⟨mb, b1, b2⟩ := I.mod.blt
  refine PySem.W.ks_loadName_global I.ok.kind hks (Calls.loadGlobal_builtin (by rw [I.ok.glob]; exact I.mod.glob.keeps I.bk) S.glob (by rw [I.ok.blt]; exact b1.keeps I.bk) ((b2 "super" (by decide)).trans (by decide +kernel)) ⟨rfl, ?_⟩)
  refine wpAny_loadName_free I.ok.kind hkc (by rw [hce, hcl]; rfl) ⟨_, KX _ _ hcell, rfl⟩ ?_
  rw [har]
  refine wpAny_loadName_local I.ok.kind hka hn hself ?_
  obtain ⟨hh, gg, d, tt, os⟩ := s
  refine ks_wpAny_isType_cls hD1 hD2 ⟨rfl, ?_⟩
  refine ks_wpAny_call_super hD1 hD2 J.at_ J.cls (fun c e => ?_) (PySem.W.looks_mroIn KX (M.sub C hC).1) (fun h' e kk => ?_)
  · have := J.no
    unfold PySem.W.notCls at this
    rw [e] at this
    exact Bool.noConfusion this
  · exact h _ _ (I.kept (t' := tt) kk) e
theorem sup_meth {pins : List (Addr × Obj)} {s : Shared} {σ : L2.St} {H : Hp} {x C dx so : Addr} {fs : List (Str × V)} {R : Value × List Value → Shared → Prop} (S : SupOk X.prog X.K X.mg F f D fd self) (M : SupM X.K CC D m g) (hm : (m == ("__class__" : Str)) = false) (I : Inv X pins σ H s)
    (hx : H x = some (.ins C dx fs)) (hC : CC C) (hso : s.heap.get? so = some (PySem.W.ks_superObj D x C))
    (h : ∀ s1, Inv X ((s.heap.objs.size, PySem.W.methodObj (.ref g) (.ref x)) :: pins) σ H s1 → R (.ref s.heap.objs.size, []) s1) : wpAny (model X.prog X.w) X.A (getMethod (.ref so) m pl) R X.xe s := by
  have KX := I.kIn
  have hsup := (M.sub C hC).2
  obtain ⟨mA, O, _⟩ := ins_get I.hok hx
  obtain ⟨od2, J, _⟩ := O.look
  have I2 := ClX.met_new (g := g) (C := x) I
  obtain ⟨hh, gg, d, tt, os⟩ := s
  cases hc : PySem.W.clsIn X.K C with
  | none => unfold PySem.W.ks_superIn at hsup; rw [hc] at hsup; cases hsup
  | some cd =>
    unfold PySem.W.ks_superIn at hsup
    rw [hc] at hsup
    obtain ⟨of, hof, hofc⟩ : ∃ of, hh.get? g = some of ∧ of.cls = .type "function" := by
      have ht' : (X.K.lookup g).map (·.cls) = some (.type "function") := M.ty
      cases z : X.K.lookup g with
      | none => rw [z] at ht'; cases ht'
      | some of => rw [z] at ht'; exact ⟨of, KX _ _ z, Option.some.inj ht'⟩
    refine ks_wpAny_getMethod_super hso (PySem.W.looks_opaque KX S.any) (l₀ := cd.mro) ?_ rfl KX hsup hof hofc (PySem.W.ks_ne KX J hc) hm (h _ I2)
    exact fun A Q E s k q => wpAny_bind ((PySem.W.looks_clsIn KX hc) A _ E s k (wpAny_pure q))
theorem pea_super (S : SupOk X.prog X.K X.mg F f D fd self) (M : SupM X.K CC D m g) (Fn : FnR X.prog X.w X.K X.mg X.base CX0 k g sp) (hr : Room k X.A) (ha : PA X (e :: es) t) (hN : X.N[i]? = some self) (hks : X.env.kindOf "super" = some .globalImplicit)
    (hkc : X.env.kindOf "__class__" = some .free) (hka : X.env.kindOf self = some .local) (hfu : X.env.func = some f) (hco : X.env.code = .ref F.c) (hce : X.env.cells = F.cl) (hm : (m == ("__class__" : Str)) = false := by decide)
    (hst : starEach (e :: es) X.env = (false, eval e X.env) :: starEach es X.env := by rfl) (hpl : (backTo pos (starEach es X.env)).any (·.1) = false := by rfl)
    (ht : eval (.Call (.Attribute (.Call (.Name "super" p0) [] [] p1) m apos) (e :: es) [] pos) X.env = (do
      let ov ← attributeBase (.Call (.Name "super" p0) [] [] p1) m X.env (eval (.Call (.Name "super" p0) [] [] p1) X.env)
      standAt apos.atName
      let (f, first) ← holding [ov] (getMethod ov m pl)
      callWith pos f first (backTo pos (starEach (e :: es) X.env)) []) := by rfl) :
    PEA X b (.Call (.Attribute (.Call (.Name "super" p0) [] [] p1) m apos) (e :: es) [] pos) (tSup i CC sp E0 t) := by
  refine ⟨fun pins s σ H Q I ⟨x, C, dx, fs, hs, hx, hC, hq⟩ => ?_⟩
  refine ks_wpAt_MethodCall (pl := pl) ?_ ht
  refine sup_get S M hN hks hkc hka hfu hco hce hm I hs hx hC fun so s1 I1 hso => ?_
  refine sup_meth S M hm I1 hx hC hso fun s2 I2 => ?_
  refine ClX.callwith_cm I2 (ClX.base_none I1 (Nat.le_refl _)) M.fi (thn (ha.run pos _ s2 σ H _ I2 hq) fun us s3 ⟨vs, H2, I3, rv, q2⟩ => ⟨⟨ClX.pin_at I3, I3.kIn⟩, ?_⟩) hst hpl
  exact ClX.run_cm Fn hr pass0 I3 rv q2
theorem pea_super0 (S : SupOk X.prog X.K X.mg F f D fd self) (M : SupM X.K CC D m g) (Fn : FnR X.prog X.w X.K X.mg X.base CX0 k g sp) (hr : Room k X.A) (hN : X.N[i]? = some self) (hks : X.env.kindOf "super" = some .globalImplicit)
    (hkc : X.env.kindOf "__class__" = some .free) (hka : X.env.kindOf self = some .local) (hfu : X.env.func = some f) (hco : X.env.code = .ref F.c) (hce : X.env.cells = F.cl) (hm : (m == ("__class__" : Str)) = false := by decide)
    (ht : eval (.Call (.Attribute (.Call (.Name "super" p0) [] [] p1) m apos) [] [] pos) X.env = (do
      let ov ← attributeBase (.Call (.Name "super" p0) [] [] p1) m X.env (eval (.Call (.Name "super" p0) [] [] p1) X.env)
      standAt apos.atName
      let (f, first) ← holding [ov] (getMethod ov m pl)
      callWith pos f first (backTo pos (starEach [] X.env)) []) := by rfl) :
    PEA X b (.Call (.Attribute (.Call (.Name "super" p0) [] [] p1) m apos) [] [] pos) (tSup i CC sp E0 tNil) := by
  refine ⟨fun pins s σ H Q I ⟨x, C, dx, fs, hs, hx, hC, hq⟩ => ?_⟩
  refine ks_wpAt_MethodCall (pl := pl) ?_ ht
  refine sup_get S M hN hks hkc hka hfu hco hce hm I hs hx hC fun so s1 I1 hso => ?_
  refine sup_meth S M hm I1 hx hC hso fun s2 I2 => ?_
  exact PySem.W.callWith_M0 (first := []) (⟨ClX.pin_at I2, I2.kIn⟩ : PySem.W.MethP X.K _ g (.ref x) s2.heap) M.fi (ClX.run_cm (us := []) (vs := []) Fn hr pass0 I2 .nil hq)
/-! ### blocks -/
theorem pba_expr {rest : List Stmt} {te : TE} {u : TS} (he : PEA X b e te) (hr : PSs X rest u) (hs : swapsWith e none pos.line X.env = pure false := by rfl) : PBA X b (.Expr e pos :: rest) (fun De σ H => te σ H fun _ H1 => u De σ H1) := by
  refine ⟨fun pins s σ H De I h => ?_⟩
  refine ks_wpAt_execs_cons (ks_wpAt_Expr_any (PySem.wpAt_mono (he.run pins s σ H _ I h) (fun v s1 ⟨x, H1, I1, r1, q1⟩ => ?_) fun _ _ z => z) I.quiet hs)
  exact PySem.wpAt_of_wpAny (hr.run pins s1 σ H1 De I1 q1)
theorem pba_ret {te : TE} (he : PEA X b e te) : PBA X b [.Return (some e) pos] (tRet te) := by
  refine ⟨fun pins s σ H De I h => ?_⟩
  exact ks_wpAt_execs_cons (ks_wpAt_Return_some (PySem.wpAt_mono (he.run pins s σ H _ I h) (fun v s1 ⟨x, H1, I1, r1, q1⟩ => ⟨x, σ, H1, I1, r1, q1⟩) fun _ _ z => z))
theorem pea_op {l r : Expr} {op : Operator} {rd : R2} {ta tb : TE} (ho : OpR X (binaryOp op) rd) (ha : PEA X b l ta) (hb : PE X r tb) : PEA X b (.BinOp l op r pos) (tOp rd ta tb) := by
  refine ⟨fun pins s σ H Q I h => ?_⟩
  refine ks_wpAt_BinOp (PySem.wpAt_mono (ha.run pins s σ H _ I h) (fun v s1 ⟨x, H1, I1, r1, q1⟩ => ?_) fun _ _ z => z)
  exact thn (hb.run pins s1 σ H1 _ I1 q1) fun u s2 ⟨y, H2, I2, r2, q2⟩ => ho pins s2 σ H2 x y v u Q I2 r1 r2 q2
end
end Gh

/-! O3: super() over the ghost layer; a method that says it, by its body -/
namespace Gh
open PySem PySem.Spec PyProof.Rows L2 NdefX
/-- super().m(..): the object lies in the slot i -/
def gSup (i : Nat) (CC : Addr → Prop) (S : GSpec) (ga : gTA) : gTE := fun s h P => ∃ q C fs, s[i]? = some (some (.ref q)) ∧ h q = some (.ins C fs) ∧ CC C ∧ ga s h fun ds h1 => S (.ref q :: ds) h1 P
theorem sup_of {K : Fg} {An : AN} {i : Nat} {CC : Addr → Prop} {S : GSpec} {gas : gTA} (σ : L2.St) (H : Hp) (Q : VK) (q : gE K An (gSup i CC S gas) σ H Q) : tSup i CC (GSP K S) E0 (gA K An gas) σ H Q := by
  obtain ⟨s, h, P, re, l, ⟨q, C, fs, hs, hq, hC, g⟩, k⟩ := q
  obtain ⟨v, hv, dv⟩ := l.2 i _ hs
  cases dv
  obtain ⟨dx, vs, hH, _⟩ := re q _ hq
  refine ⟨q, C, dx, _, hv, hH, hC, s, h, _, re, l, g, fun vs H1 ds h1 s1 re1 dvs g1 => ?_⟩
  exact ⟨.ref q :: ds, h1, P, re1, .cons (.ref q) dvs, g1, fun v H' d h' s2 re2 dv p => k v H' d h' (s1.trans s2) re2 dv p⟩
section
variable {X : Cx} {An : AN} {b : List Stmt} {F : NF} {f D g : Addr} {fd : FuncData} {slf m : Str} {i k j : Nat} {CC : Addr → Prop} {S : GSpec} {p0 p1 apos pos : Pos} {e r : Expr} {es : List Expr} {gas : gTA} {ga gb : gTE} {pl : Sem Bool}
theorem x_super (SO : SupOk X.prog X.K X.mg F f D fd slf) (M : SupM X.K CC D m g) (Fn : FnR X.prog X.w X.K X.mg X.base CX0 k g (GSP X.K S)) (hr : Room j X.A) (hk : k ≤ j) (ha : PA X (e :: es) (gA X.K An gas)) (hN : X.N[i]? = some slf := by rfl) (hks : X.env.kindOf "super" = some .globalImplicit := by rfl)
    (hkc : X.env.kindOf "__class__" = some .free := by rfl) (hka : X.env.kindOf slf = some .local := by rfl) (hfu : X.env.func = some f := by rfl) (hco : X.env.code = .ref F.c := by rfl) (hce : X.env.cells = F.cl := by rfl) (hm : (m == ("__class__" : Str)) = false := by decide)
    (hst : starEach (e :: es) X.env = (false, eval e X.env) :: starEach es X.env := by rfl) (hpl : (backTo pos (starEach es X.env)).any (·.1) = false := by rfl)
    (ht : eval (.Call (.Attribute (.Call (.Name "super" p0) [] [] p1) m apos) (e :: es) [] pos) X.env = (do
      let ov ← attributeBase (.Call (.Name "super" p0) [] [] p1) m X.env (eval (.Call (.Name "super" p0) [] [] p1) X.env)
      standAt apos.atName
      let (f, first) ← holding [ov] (getMethod ov m pl)
      callWith pos f first (backTo pos (starEach (e :: es) X.env)) []) := by rfl) :
    PEA X b (.Call (.Attribute (.Call (.Name "super" p0) [] [] p1) m apos) (e :: es) [] pos) (gE X.K An (gSup i CC S gas)) :=
  (pea_super SO M Fn (hr.mono hk) ha hN hks hkc hka hfu hco hce hm hst hpl ht).imp sup_of
theorem x_super0 (SO : SupOk X.prog X.K X.mg F f D fd slf) (M : SupM X.K CC D m g) (Fn : FnR X.prog X.w X.K X.mg X.base CX0 k g (GSP X.K S)) (hr : Room j X.A) (hk : k ≤ j) (hN : X.N[i]? = some slf := by rfl) (hks : X.env.kindOf "super" = some .globalImplicit := by rfl)
    (hkc : X.env.kindOf "__class__" = some .free := by rfl) (hka : X.env.kindOf slf = some .local := by rfl) (hfu : X.env.func = some f := by rfl) (hco : X.env.code = .ref F.c := by rfl) (hce : X.env.cells = F.cl := by rfl) (hm : (m == ("__class__" : Str)) = false := by decide)
    (ht : eval (.Call (.Attribute (.Call (.Name "super" p0) [] [] p1) m apos) [] [] pos) X.env = (do
      let ov ← attributeBase (.Call (.Name "super" p0) [] [] p1) m X.env (eval (.Call (.Name "super" p0) [] [] p1) X.env)
      standAt apos.atName
      let (f, first) ← holding [ov] (getMethod ov m pl)
      callWith pos f first (backTo pos (starEach [] X.env)) []) := by rfl) :
    PEA X b (.Call (.Attribute (.Call (.Name "super" p0) [] [] p1) m apos) [] [] pos) (gE X.K An (gSup i CC S aNil)) :=
  (pea_super0 SO M Fn (hr.mono hk) hN hks hkc hka hfu hco hce hm ht).imp fun σ H Q q => by
    obtain ⟨x, C, dx, fs, h1, h2, h3, s, h, P, re, l, g, k⟩ := sup_of σ H Q q
    exact ⟨x, C, dx, fs, h1, h2, h3, k _ H _ h (Step.refl h H) re .nil g⟩
theorem x_expr {rest : List Stmt} {g2 : gTS} (he : PEA X b e (gE X.K An ga)) (hr : PSs X rest (gS X.K An g2)) (hs : swapsWith e none pos.line X.env = pure false := by rfl) : PBA X b (.Expr e pos :: rest) (gS X.K An (sSeq (sDrop ga) g2)) :=
  (pba_expr he hr hs).imp fun De σ H ⟨s, h, N, re, l, g, m⟩ => ⟨s, h, _, re, l, g, fun v H1 d h1 s1 re1 dv p => ⟨s, h1, N, re1, l.mono s1, p, m.after s1⟩⟩
theorem x_addO (ha : PEA X b e (gE X.K An ga)) (hb : PE X r (gE X.K An gb)) : PEA X b (.BinOp e .Add r pos) (gF X.K An (fAdd ga gb)) := (pea_op op_cat ha hb).imp fun σ H Q ⟨s, h, P, re, l, g, k⟩ => by
  refine ⟨s, h, _, re, l, g, fun x H1 d1 h1 s1 re1 dx g1 => ?_⟩
  refine ⟨s, h1, _, re1, l.mono s1, g1, fun y H2 d2 h2 s2 re2 dy ⟨xs, ys, e1, e2, hz, pp⟩ => ?_⟩
  obtain ⟨p, us, rfl, hp, rs⟩ := vw_lst re2 (dx.mono s2) e1
  obtain ⟨q, vs, rfl, hq, rt⟩ := vw_lst re2 dy e2
  refine ⟨p, q, us, vs, rfl, rfl, hp, hq, by rw [rs.length, rt.length]; exact hz, fun t n => ?_⟩
  exact k t _ _ h2 (re2.free n) ((s1.trans s2).trans (Step.newO n)) (re2.newO n (rs.append rt)) pp
theorem x_let (he : PEA X b e (gE X.K An ga)) : PEA X b e (gE X.K An (gLet ga)) := he.imp fun σ H Q ⟨s, h, P, re, l, g, k⟩ => by
  refine ⟨s, h, _, re, l, g, fun v H1 d h1 s1 re1 dv ⟨p, ds, ed, ep, pp⟩ => ?_⟩
  subst ed
  cases dv
  exact k _ H1 _ _ (s1.trans Step.del) re1.del (re1.letgo ep) pp
theorem x_retO (he : PEA X b e (gF X.K An gas)) : PBA X b [.Return (some e) pos] (gS X.K An (sRetO gas)) := (pba_ret he).imp fun De σ H ⟨s, h, N, re, l, g, m⟩ => by
  refine ⟨s, h, _, re, l, g, fun t ds H1 h1 n s1 re1 p => ?_⟩
  exact m.rt _ H1 _ _ s1 re1 (.ref t) (p t n)
end
/-! ### the method's contract -/
theorem PBA.nox {X : Cx} {b sts : List Stmt} {t : TS} (h : PBA X.nox b sts t) : PBA X b sts t := ⟨fun pins s σ H De I hw =>
  PySem.wpAt_mono (h.run pins s σ H De (I.wish _) hw) (fun _ _ q => q.unwish) fun _ _ z => False.elim z⟩
theorem startF_eq {N : List Str} {vs : List V} {v : V} : startF N vs [some v] = L2.start N (vs ++ [v]) := by
  unfold startF L2.start
  rw [List.map_append, List.append_assoc, List.length_append]
  show _ ++ ([some v] ++ List.replicate (N.length - vs.length - 1) none) = _
  rw [Nat.sub_sub]
  rfl
section
variable {P : Program} {w : World} {K : Fg} {mg : Str → Option Value} {base : Heap}
theorem gfunS {F : NF} {f D : Addr} {fd : FuncData} {slf : Str} {N ps : List Str} {k : Nat} {S : GSpec} {g : gTS} {dV kV doc pm ct : Value} {an : Option Addr} (SO : SupOk P K mg F f D fd slf) (hfd : fd = PySem.W.fnX F.name F.qual F.params F.body F.scope F.cl dV kV doc pm an (.ref F.c) ct)
    (hcd : PySem.W.codeIn K (.ref F.c) F.qual = true) (sc : NScope N ps ["__class__"] F.scope) (b : Binds K fd ps []) (len : ∀ ds h P, S ds h P → ds.length = ps.length)
    (hd : ∀ (A : Around) (outer : List Env) (s : Shared) (H : Hp) (E : XK), Room k (A.deeper (envF F f s.heap.objs.size)) → PBA (ncx CX0 P w K mg base N F f A outer s H E).nox F.body F.body (gS K AN.top g))
    (hg : ∀ ds h P, S ds h P → g { nx := fun _ h' => P .non h', rt := P } (startG N (ds ++ [.ref D])) h) : FnR P w K mg base CX0 (k + 1) f (GSP K S) := by
  have ok : FnOk P w K mg base CX0 (k + 1) f fd ps (GSP K S) := by
    refine ⟨fun vs H Q E ⟨ds, h, P, re, dv, s, _⟩ => by rw [dv.length]; exact len _ _ _ s, fun A outer s H args us vs Q E hr e0 hb r ⟨ds, h, P', re, dv, hs, kk⟩ => ?_⟩
    obtain ⟨oc, od, osl, hat⟩ := SO.at_
    obtain ⟨cc, cl, cld, csl, hcl, hcell⟩ := SO.cell
    have KX : K.In s.heap := e0.mod.kin.keeps fun b o e => (e0.bs b o e).1
    have lim : s.heap.NoLimit := e0.mod.nolimit.keeps fun b o e => (e0.bs b o e).1
    have hl : vs.length = ps.length := by rw [dv.length]; exact len _ _ _ hs
    have C : CellsAt F.cl ["__class__"] [some (.ref D)] s.heap H := by
      have one : ∀ y c, F.cl.lookup y = some c → y = "__class__" ∧ c = cc := fun y c e => by
        rw [hcl] at e
        by_cases z : (y == ("__class__" : Str)) = true
        · simp only [List.lookup, z] at e; cases e; exact ⟨beq_iff_eq.mp z, rfl⟩
        · have z : (y == ("__class__" : Str)) = false := by simpa using z
          simp only [List.lookup, z] at e; cases e
      have hb0 := e0.bs cc _ (e0.mod.kin _ _ hcell)
      refine ⟨rfl, fun y c e => ?_, fun x y c e1 e2 => (one x c e1).1.trans (one y c e2).1.symm, fun i y e => ?_⟩
      · obtain ⟨_, rfl⟩ := one y c e
        exact ⟨hb0.2, _, ⟨_, hb0.1, rfl⟩⟩
      · match i, e with
        | 0, e =>
          cases e
          refine ⟨cc, by rw [hcl]; rfl, fun v hv => ?_⟩
          cases hv
          exact ⟨_, rfl, ⟨_, hb0.1, rfl⟩⟩
        | n + 1, e => simp at e
    have henv : callEnv fd s.heap.objs.size f = envF F f s.heap.objs.size := by rw [hfd]; rfl
    have hbod : fd.body = .stmts F.body := by rw [hfd]
    have hsc : fd.scope = F.scope := by rw [hfd]
    have hcr : s.heap.CodeRec fd.code fd.qualname := by rw [hfd]; exact PySem.W.codeRec_of KX hcd
    refine ks_codeAny_call_defAt (fd := fd) (body := F.body) (binds := ps.zip us) hr.depth (KX _ _ hat) rfl lim hcr hbod hb (by rw [hsc]; exact sc.nocell) (by rw [hsc]; exact fun ⟨n, _⟩ hy => sc.par n (List.of_mem_zip hy).1) (fun h₁ hns kp => ?_) (by rw [hsc]; exact sc.co) (by rw [hsc]; exact sc.gen) (by rw [hsc]; exact sc.kind)
    rw [henv]
    have I : Inv (ncx CX0 P w K mg base N F f A outer s H E) [] (startF N vs [some (.ref D)]) H { s with heap := h₁, toks := s.toks + (ps.zip us).length } := inv_startN sc hr.hd e0 hl r C hns kp
    rw [startF_eq] at I
    have dv2 : Dvs K h H (vs ++ [.ref D]) (ds ++ [.ref D]) := dv.append (.cons (.ref D) .nil)
    have hq : gS K AN.top g { nx := fun _ H' => Q .non H', rt := Q } (L2.start N (vs ++ [.ref D])) H :=
      ⟨startG N (ds ++ [.ref D]), h, { nx := fun _ h' => P' .non h', rt := P' }, re, Sl.begin dv2 trivial, hg ds h P' hs, fun σ' H' s' h' st re' l' p => kk _ H' _ h' st re' .non p, fun v H' d h' st re' dv' p => kk v H' d h' st re' dv' p, fun _ _ _ _ _ _ _ z => z.elim, fun _ _ _ _ _ _ _ z => z.elim⟩
    refine PySem.wpAt_mono ((hd A outer s H E (hr.deeper _)).nox.run [] _ _ H _ I hq) (fun fl s' hs => ?_) fun e s' hs => hs
    have fin : ∀ {σ' : L2.St} {H' : Hp} {v : V} {u : Value}, Inv (ncx CX0 P w K mg base N F f A outer s H E) [] σ' H' s' → L2.RelV v u → Q v H' → CE outer P w H s Q u s' :=
      fun {σ' H' v u} J rv q => ⟨v, H', J.os, J.bare, J.base, J.hok, rv, q⟩
    cases fl with
    | ret u =>
      obtain ⟨v, σ', H', J, rv, q⟩ := hs
      exact fin J rv q
    | next =>
      obtain ⟨σ', H', J, q⟩ := hs
      exact fin (v := V.non) (u := Value.none) J rfl q
    | brk =>
      obtain ⟨_, _, _, q⟩ := hs
      exact False.elim q
    | cont =>
      obtain ⟨_, _, _, q⟩ := hs
      exact False.elim q
  exact (ok.raw b .nil).imp fun vs H Q E q => by rw [List.append_nil]; exact q
/-- a method of the text, by its body -/
theorem gfunM {x q : Str} {st : Stmt} {f : Addr} {fd : FuncData} {N ps : List Str} {k : Nat} {S : GSpec} {g : gTS} (F : Fun K x q st f fd) (b : Binds K fd ps []) (sc : FnScope N ps (defScope st)) (len : ∀ ds h P, S ds h P → ds.length = ps.length)
    (hd : ∀ (cdv : Value) (A : Around) (outer : List Env) (s : Shared) (H : Hp) (E : XK), Room k (A.deeper (envOfC q (defScope st) s.heap.objs.size f cdv)) → PSs (cxOf CX0 P w K mg base N q (defScope st) f cdv A outer s H E).nox (defBody st) (gS K AN.top g))
    (hg : ∀ ds h P, S ds h P → g { nx := fun _ h' => P .non h', rt := P } (startG N ds) h) : FnR P w K mg base CX0 (k + 1) f (GSP K S) := by
  have ok : FnOk P w K mg base CX0 (k + 1) f fd ps (GSP K S) := by
    refine F.ok sc (fun vs H Q E ⟨ds, h, P, re, dv, s, _⟩ => by rw [dv.length]; exact len _ _ _ s) (fun cdv A outer s H vs Q E hr ⟨ds, h, P, re, dv, hs, kk⟩ => ⟨_, hd cdv A outer s H E hr, ?_⟩)
    exact ⟨startG N ds, h, _, re, Sl.begin dv trivial, hg ds h P hs, fun σ' H' s' h' st re' l' p => kk _ H' _ h' st re' .non p, fun v H' d h' st re' dv' p => kk v H' d h' st re' dv' p, fun _ _ _ _ _ _ _ z => z.elim, fun _ _ _ _ _ _ _ z => z.elim⟩
  exact (ok.raw b .nil).imp fun vs H Q E q => by rw [List.append_nil]; exact q
end
end Gh

/-! H2: the head's facts, with methods that say super() -/
namespace Gh
open PySem PySem.Spec PyProof.Rows L2 NdefX
def noClo : He.FnV → He.FnV
  | some (a, b, c, d, e, f, _, h, i) => some (a, b, c, d, e, f, [], h, i)
  | none => none
def cellB (K : Fg) (cc : Addr) (D : Addr) : Bool := match K.lookup cc with
  | some ⟨_, _, .cell (some (.ref C)), _⟩ => C == D
  | _ => false
def cloB (K : Fg) (D : Addr) : List (Str × Addr) → Bool
  | [(x, cc)] => (x == ("__class__" : Str)) && cellB K cc D
  | _ => false
def fileB (K : Fg) (file : Str) (c : Addr) : Bool := match K.lookup c with
  | some ⟨_, _, .fields vs, _⟩ => (match (vs[2]? : Option Value) with
    | some (.str f _) => f == file
    | _ => false)
  | _ => false
def codeB (K : Fg) (file qual : Str) : Value → Bool
  | .ref c => PySem.W.codeIn K (.ref c) qual && fileB K file c
  | _ => false
def supB (K : Fg) (file : Str) (d : He.FnD) (D : Str) : Bool := match K.lookup (He.fAd K d.at_) with
  | some ⟨_, _, .func fd, _⟩ => cloB K (He.ga K D) fd.closure && codeB K file d.qual fd.code
  | _ => false
def SupSays (K : Fg) (file : Str) (d : He.FnD) (D : Str) : Prop := ∃ (cc c : Addr) (oc : Value) (od : Option Addr) (osl : Array (Option Value)) (kV doc pm : Value) (an : Option Addr) (ct cl : Value) (cld : Option Addr) (csl : Array (Option Value)) (ccl : Value) (cdd : Option Addr) (vs : Array Value) (ccs : Array (Option Value)) (tf : Tok),
   K.lookup (He.fAd K d.at_) = some ⟨oc, od, .func (PySem.W.fnX d.name d.qual d.params d.body d.scope [(("__class__" : Str), cc)] .none kV doc pm an (.ref c) ct), osl⟩ ∧ PySem.W.codeIn K (.ref c) d.qual = true ∧ K.lookup cc = some ⟨cl, cld, .cell (some (.ref (He.ga K D))), csl⟩ ∧
   K.lookup c = some ⟨ccl, cdd, .fields vs, ccs⟩ ∧ vs[2]? = some (.str file tf)
theorem cellB_ok {K : Fg} {cc D : Addr} (h : cellB K cc D = true) : ∃ cl cld csl, K.lookup cc = some ⟨cl, cld, .cell (some (.ref D)), csl⟩ := by
  unfold cellB at h
  split at h
  · rename_i cl cld C csl e
    have : C = D := by simpa using h
    subst this
    exact ⟨_, _, _, e⟩
  · cases h
theorem fileB_ok {K : Fg} {c : Addr} {file : Str} (h : fileB K file c = true) : ∃ ccl cdd vs ccs tf, K.lookup c = some ⟨ccl, cdd, .fields vs, ccs⟩ ∧ vs[2]? = some (.str file tf) := by
  unfold fileB at h
  split at h
  · rename_i ccl cdd vs ccs e
    split at h
    · rename_i f tf e2
      have : f = file := by simpa using h
      subst this
      exact ⟨_, _, _, _, _, e, e2⟩
    · cases h
  · cases h
theorem sup_says {K : Fg} {file : Str} {d : He.FnD} {D : Str} (e : noClo (He.fnObs K d.at_) = d.val) (c : supB K file d D = true) : SupSays K file d D := by
  unfold supB at c
  unfold He.fnObs at e
  cases q : K.lookup (He.fAd K d.at_) with
  | none => rw [q] at c; cases c
  | some o =>
    obtain ⟨oc, od, dt, osl⟩ := o
    rw [q] at c e
    cases dt with
    | func fd =>
      obtain ⟨n1, n2, n3, n4, n5, n6, n7, n8, n9, n10, n11, n12, n13, n14, n15⟩ := fd
      obtain ⟨c1, c2⟩ := He.ba c
      have c1 : cloB K (He.ga K D) n7 = true := c1
      have c2 : codeB K file d.qual n13 = true := c2
      have e2 : (some (n1, n2, n3, n4, n5, n6, [], n8, n15) : He.FnV) = some (d.name, d.qual, d.params, .stmts d.body, d.scope, mainGlobals, [], .none, builtinsNs) := e
      simp only [Option.some.injEq, Prod.mk.injEq] at e2
      obtain ⟨h1, h2, h3, h4, h5, h6, _, h8, h9⟩ := e2
      subst h1 h2 h3 h4 h5 h6 h8 h9
      match n7, c1, n13, c2 with
      | [(x, cc)], c1, .ref c, c2 =>
        obtain ⟨c3, c4⟩ := He.ba c1
        obtain ⟨c5, c6⟩ := He.ba c2
        have : x = ("__class__" : Str) := beq_iff_eq.mp c3
        subst this
        obtain ⟨cl, cld, csl, k1⟩ := cellB_ok c4
        obtain ⟨ccl, cdd, vs, ccs, tf, k2, k3⟩ := fileB_ok c6
        exact ⟨cc, c, oc, od, osl, n9, n10, n11, n12, n14, cl, cld, csl, ccl, cdd, vs, ccs, tf, q, c5, k1, k2, k3⟩
    | _ => cases c
structure Plan2 where
  p : Plan
  sn : List (He.FnD × Str)
  file : Str
abbrev AlS : Type := AlQ × Bool × List He.FnV
def Plan2.obs (p : Plan2) (g : Addr → Option Obj) (K : PySem.W.Frag) : AlS := (p.p.obs g K, p.sn.all (fun d => supB K p.file d.1 d.2), p.sn.map fun d => noClo (He.fnObs K d.1.at_))
def Plan2.val (p : Plan2) : AlS := (p.p.val, true, p.sn.map fun d => d.1.val)
def Plan2.obsG (p : Plan2) (g : Addr → Option Obj) : AlS := p.obs g (He.frG g (asP g))
structure Plan2.Says (p : Plan2) (h : Heap) (K : PySem.W.Frag) : Prop where
  says : p.p.Says h K
  sup : ∀ d ∈ p.sn, SupSays K p.file d.1 d.2
theorem Plan2.says_of {p : Plan2} {h : Heap} {K : PySem.W.Frag} (e : p.obs h.get? K = p.val) : p.Says h K := by
  have e0 : p.p.obs h.get? K = p.p.val := congrArg (fun z : AlS => z.1) e
  have e1 : p.sn.all (fun d => supB K p.file d.1 d.2) = true := congrArg (fun z : AlS => z.2.1) e
  have e2 : p.sn.map (fun d => noClo (He.fnObs K d.1.at_)) = p.sn.map fun d => d.1.val := congrArg (fun z : AlS => z.2.2) e
  exact ⟨Plan.says_of e0, fun d hd => sup_says (map_at e2 d hd) (List.all_eq_true.mp e1 d hd)⟩
def Plan2.hook (p : Plan2) : PySem.W.Hook where
  α := AlS
  obs := fun s => p.obsG s.heap.get?
  val := fun _ => p.val
  says := fun _ h => ∃ K : PySem.W.Frag, K.In h ∧ p.Says h K
  of := fun _ _ e => ⟨_, He.frG_in, Plan2.says_of e⟩
  keeps := fun _ _ _ ⟨K, hK, c⟩ k => ⟨K, PySem.W.Frag.In.keeps hK k, ⟨⟨c.says.fact, c.says.fn, c.says.dn, fun x hx => (c.says.tb x hx).keeps k⟩, c.sup⟩⟩
theorem Plan2.obsG_eq {p : Plan2} {g : Addr → Option Obj} {s : Shared} (h : ∀ a, g a = s.heap.get? a) : p.obsG g = p.hook.obs s := by
  have e : g = s.heap.get? := funext h
  rw [e] <;> rfl
/-- a method that says super(), as it stands behind the top -/
structure SupFn (P : Program) (K : Fg) (mg : Str → Option Value) (F : NF) (f D : Addr) (fd : FuncData) : Prop where
  ok : SupOk P K mg F f D fd "self"
  fd : ∃ (dV kV doc pm ct : Value) (an : Option Addr), dV = .none ∧ fd = PySem.W.fnX F.name F.qual F.params F.body F.scope F.cl dV kV doc pm an (.ref F.c) ct
  cd : PySem.W.codeIn K (.ref F.c) F.qual = true
theorem sup_mk {P : Program} {K : Fg} {mg : Str → Option Value} {file : Str} {d : He.FnD} {D : Str} (s : SupSays K file d D) (hp : ∃ ar : Arg, (d.params.posonlyargs ++ d.params.args).head? = some ar ∧ ar.arg = "self") (hfile : ((P.main.file : Str) == file) = true) (hD : PySem.W.isClsIn K (He.ga K D) = true)
    (htop : (P.main.scope.names.lookup ("super" : Str)).isSome = false) (hmg : mg "super" = none) (hany : PySem.W.nsIn K cStatics "thirdparty.any" = some none) :
    ∃ (cc c : Addr) (fd : FuncData), SupFn P K mg ⟨d.name, d.qual, d.params, d.body, d.scope, [(("__class__" : Str), cc)], c⟩ (He.fAd K d.at_) (He.ga K D) fd := by
  obtain ⟨cc, c, oc, od, osl, kV, doc, pm, an, ct, cl, cld, csl, ccl, cdd, vs, ccs, tf, h1, h2, h3, h4, h5⟩ := s
  obtain ⟨cd, hcd⟩ := Option.isSome_iff_exists.mp (show (PySem.W.clsIn K (He.ga K D)).isSome = true from hD)
  exact ⟨cc, c, _, ⟨⟨_, _, _, h1⟩, hp, ⟨ccl, cdd, vs, ccs, file, tf, h4, h5, hfile⟩, ⟨cc, cl, cld, csl, rfl, h3⟩, ⟨cd, hcd⟩, htop, hmg, hany⟩, ⟨.none, kV, doc, pm, ct, an, rfl, rfl⟩, h2⟩
theorem SupFn.binds {P : Program} {K : Fg} {mg : Str → Option Value} {F : NF} {f D : Addr} {fd : FuncData} {ps : List Str} (S : SupFn P K mg F f D fd) (h : ∀ (kV doc pm ct : Value) (an : Option Addr) (us : List Value), us.length = ps.length → bindArgs (PySem.W.fnX F.name F.qual F.params F.body F.scope F.cl .none kV doc pm an (.ref F.c) ct) ⟨us, []⟩ = pure (ps.zip us)) : Binds K fd ps [] := by
  obtain ⟨dV, kV, doc, pm, ct, an, rfl, rfl⟩ := S.fd
  exact Binds.all fun us hl => h kV doc pm ct an us hl
end Gh

set_option maxHeartbeats 2000000
namespace K19
open PySem L2 Gh
structure Oc where
  cS : Addr
  cB : Addr
  cH : Addr
def F3 (O : Oc) : Addr → Prop := fun C => C = O.cS ∨ C = O.cB ∨ C = O.cH
def sq (h : GH) (a : D) (xs : List D) : Prop := vw h a = .lst xs ∨ vw h a = .tup xs
def fs0 (xs ys : List D) : List (Str × D) := [("equal", .lst xs), ("above", .lst ys)]
def fs1 (f : Str) (xs ys : List D) (v : D) : List (Str × D) := [("equal", .lst xs), ("above", .lst ys), (f, v)]
/-! ## the methods -/
def S_sI (O : Oc) : GSpec := fun ds h P => ∃ (q C : Addr) (a b : D) (xs ys : List D), ds = [.ref q, a, b] ∧ h q = some (.ins C []) ∧ F3 O C ∧ sq h a xs ∧ sq h b ys ∧ P .non (put h q (.ins C (fs0 xs ys)))
def g_sI (O : Oc) : gTS := sSeq (sFl (F3 O) "equal" (gVar 0) (gFr (fList (aCons (gVar 1) aNil)))) (sFl (F3 O) "above" (gVar 0) (gFr (fList (aCons (gVar 2) aNil))))
def S_sN (O : Oc) : GSpec := fun ds h P => ∃ (q C : Addr) (fs : List (Str × D)) (xs ys : List D), ds = [.ref q] ∧ h q = some (.ins C fs) ∧ F3 O C ∧ fs.lookup ("equal" : Str) = some (D.lst xs) ∧ fs.lookup ("above" : Str) = some (D.lst ys) ∧ xs.length + ys.length ≤ sizeLine ∧ ∀ p, h p = none → P (.ref p) (put h p (.lst (xs ++ ys)))
def g_sN (O : Oc) : gTS := sRetO (fAdd (gFld (F3 O) "equal" (gVar 0)) (gFld (F3 O) "above" (gVar 0)))
def S_xI (O : Oc) (c : Addr) (f : Str) : GSpec := fun ds h P => ∃ (q : Addr) (a b v : D) (xs ys : List D), ds = [.ref q, a, b, v] ∧ h q = some (.ins c []) ∧ sq h a xs ∧ sq h b ys ∧ P .non (put h q (.ins c (fs1 f xs ys v)))
def g_xI (O : Oc) (c : Addr) (f : Str) : gTS := sSeq (sDrop (gSup 0 (fun C => C = c) (S_sI O) (aCons (gVar 1) (aCons (gVar 2) aNil)))) (sFl (F3 O) f (gVar 0) (gVar 3))
def S_xN (O : Oc) (c : Addr) (f : Str) : GSpec := fun ds h P => ∃ (q : Addr) (xs ys : List D) (v : D), ds = [.ref q] ∧ h q = some (.ins c (fs1 f xs ys v)) ∧ xs.length + ys.length + 1 ≤ sizeLine ∧ ∀ p, h p = none → P (.ref p) (put h p (.lst ((xs ++ ys) ++ [v])))
def g_xN (O : Oc) (c : Addr) (f : Str) : gTS := sRetO (fAdd (gLet (gSup 0 (fun C => C = c) (S_sN O) aNil)) (gFr (fLst (aCons (gFld (F3 O) f (gVar 0)) aNil))))
theorem vw_ins {h : GH} {q : Addr} {C C' : Addr} {fs fs' : List (Str × D)} (e : h q = some (.ins C fs)) (a : D) : vw (put h q (.ins C' fs')) a = vw h a := by
  cases a with
  | ref p =>
    by_cases z : p = q
    · subst z
      simp only [vw, put_same, e]
    · simp only [vw, put_ne z]
  | _ => rfl
theorem lk_same {f : Str} {d : D} {r : List (Str × D)} : List.lookup f ((f, d) :: r) = some d := by simp [List.lookup]
theorem lk_ne {f g : Str} {d : D} {r : List (Str × D)} (h : (f == g) = false) : List.lookup f ((g, d) :: r) = List.lookup f r := by simp [List.lookup, h]
theorem put0 (xs ys : List D) : putG "above" (.lst ys) [(("equal" : Str), .lst xs)] = fs0 xs ys := by
  unfold putG
  rw [if_neg (by decide)]
  rfl
theorem put1 {f : Str} (n1 : (("equal" : Str) = f) = False) (n2 : (("above" : Str) = f) = False) (xs ys : List D) (v : D) : putG f v (fs0 xs ys) = fs1 f xs ys v := by
  unfold fs0 putG
  rw [if_neg (by rw [n1]; exact id)]
  unfold putG
  rw [if_neg (by rw [n2]; exact id)]
  rfl
theorem pure_sI (O : Oc) (ds : List D) (h : GH) (P : GP) (hs : S_sI O ds h P) : g_sI O { nx := fun _ h' => P .non h', rt := P } (startG ["self", "equal", "above"] ds) h := by
  obtain ⟨q, C, a, b, xs, ys, rfl, hq, hC, ha, hb, hp⟩ := hs
  refine ⟨a, rfl, a, xs, rfl, ?_, .ref q, rfl, q, C, [], rfl, hq, hC, by decide, ?_⟩
  · rcases ha with ha | ha
    · exact .inl ha
    · exact .inr (.inl ha)
  refine ⟨b, rfl, b, ys, rfl, ?_, .ref q, rfl, q, C, _, rfl, put_same, hC, by show 1 < 1000; decide, ?_⟩
  · rcases hb with hb | hb
    · exact .inl ((vw_ins hq b).trans hb)
    · exact .inr (.inl ((vw_ins hq b).trans hb))
  rw [put_put]
  show P .non (put h q (.ins C (putG "above" (.lst ys) [("equal", .lst xs)])))
  rw [put0]
  exact hp
theorem len_sI (O : Oc) (ds : List D) (h : GH) (P : GP) (hs : S_sI O ds h P) : ds.length = 3 := by obtain ⟨_, _, _, _, _, _, rfl, _⟩ := hs; rfl
theorem pure_sN (O : Oc) (ds : List D) (h : GH) (P : GP) (hs : S_sN O ds h P) : g_sN O { nx := fun _ h' => P .non h', rt := P } (startG ["self"] ds) h := by
  obtain ⟨q, C, fs, xs, ys, rfl, hq, hC, l1, l2, hz, hp⟩ := hs
  exact ⟨.ref q, rfl, q, C, fs, _, rfl, hq, hC, l1, .ref q, rfl, q, C, fs, _, rfl, hq, hC, l2, xs, ys, rfl, rfl, hz, hp⟩
theorem len_sN (O : Oc) (ds : List D) (h : GH) (P : GP) (hs : S_sN O ds h P) : ds.length = 1 := by obtain ⟨_, _, _, _, _, rfl, _⟩ := hs; rfl
theorem pure_xI (O : Oc) (c D : Addr) (f : Str) (hc : F3 O c) (n1 : (("equal" : Str) = f) = False) (n2 : (("above" : Str) = f) = False) (ds : List Gh.D) (h : GH) (P : GP) (hs : S_xI O c f ds h P) : g_xI O c f { nx := fun _ h' => P .non h', rt := P } (startG ["self", "equal", "above", f, "__class__"] (ds ++ [.ref D])) h := by
  obtain ⟨q, a, b, v, xs, ys, rfl, hq, ha, hb, hp⟩ := hs
  refine ⟨q, c, [], rfl, hq, rfl, a, rfl, b, rfl, ?_⟩
  refine ⟨q, c, a, b, xs, ys, rfl, hq, hc, ha, hb, ?_⟩
  refine ⟨v, rfl, .ref q, rfl, q, c, _, rfl, put_same, hc, by show 2 < 1000; decide, ?_⟩
  show P .non _
  rw [put_put, put1 n1 n2]
  exact hp
theorem len_xI (O : Oc) (c : Addr) (f : Str) (ds : List D) (h : GH) (P : GP) (hs : S_xI O c f ds h P) : ds.length = 4 := by obtain ⟨_, _, _, _, _, _, rfl, _⟩ := hs; rfl
theorem pure_xN (O : Oc) (c D : Addr) (f : Str) (hc : F3 O c) (n1 : (f == ("equal" : Str)) = false) (n2 : (f == ("above" : Str)) = false) (ds : List Gh.D) (h : GH) (P : GP) (hs : S_xN O c f ds h P) : g_xN O c f { nx := fun _ h' => P .non h', rt := P } (startG ["self", "__class__"] (ds ++ [.ref D])) h := by
  obtain ⟨q, xs, ys, v, rfl, hq, hz, hp⟩ := hs
  refine ⟨q, c, _, rfl, hq, rfl, ?_⟩
  refine ⟨q, c, _, xs, ys, rfl, hq, hc, lk_same, (lk_ne (by decide)).trans lk_same, by omega, fun p1 hp1 => ?_⟩
  refine ⟨p1, _, rfl, put_same, ?_⟩
  rw [put_del hp1]
  refine ⟨.ref q, rfl, q, c, _, v, rfl, hq, hc, (lk_ne n1).trans ((lk_ne n2).trans lk_same), by show 1 ≤ sizeLine; decide, ?_⟩
  exact ⟨xs ++ ys, [v], rfl, rfl, by rw [List.length_append]; exact hz, hp⟩
theorem len_xN (O : Oc) (c : Addr) (f : Str) (ds : List D) (h : GH) (P : GP) (hs : S_xN O c f ds h P) : ds.length = 1 := by obtain ⟨_, _, _, _, rfl, _⟩ := hs; rfl
/-! ## the same data, owned lists among it -/
def smA : D → Prop
  | .non => True
  | .bl _ => True
  | .int _ => True
  | .str _ => True
  | _ => False
def SmD : Nat → GH → D → D → Prop
  | 0, h, a, b => ∃ d, vw h a = d ∧ vw h b = d ∧ smA d
  | n + 1, h, a, b => (∃ d, vw h a = d ∧ vw h b = d ∧ smA d) ∨ ∃ xs ys, ((vw h a = .lst xs ∧ vw h b = .lst ys) ∨ (vw h a = .tup xs ∧ vw h b = .tup ys)) ∧ xs.length = ys.length ∧ ys.length ≤ sizeLine ∧ ∀ (i : Nat) (x y : D), xs[i]? = some x → ys[i]? = some y → SmD n h x y
def S_sameG (n : Nat) : GSpec := fun ds h P => ∃ a b, ds = [a, b] ∧ SmD n h a b ∧ P (.bl true) h
theorem SmD.put {h : GH} {p : Addr} {g : GO} (hp : h p = none) : ∀ {n : Nat} {a b : D}, SmD n h a b → SmD n (put h p g) a b
  | 0, a, b, ⟨d, e1, e2, k⟩ => ⟨d, vw_put hp e1 (fun q z => by subst z; exact k), vw_put hp e2 (fun q z => by subst z; exact k), k⟩
  | n + 1, a, b, .inl ⟨d, e1, e2, k⟩ => .inl ⟨d, vw_put hp e1 (fun q z => by subst z; exact k), vw_put hp e2 (fun q z => by subst z; exact k), k⟩
  | n + 1, a, b, .inr ⟨xs, ys, e, l, z, k⟩ => by
    refine .inr ⟨xs, ys, ?_, l, z, fun i x y hx hy => (k i x y hx hy).put hp⟩
    rcases e with ⟨e1, e2⟩ | ⟨e1, e2⟩
    · exact .inl ⟨vw_put hp e1 (fun q z => nomatch z), vw_put hp e2 (fun q z => nomatch z)⟩
    · exact .inr ⟨vw_put hp e1 (fun q z => nomatch z), vw_put hp e2 (fun q z => nomatch z)⟩
theorem sm_ok {h : GH} : ∀ {n : Nat} {d : D}, okD n d → SmD n h d d
  | 0, .non, _ => ⟨_, rfl, rfl, trivial⟩
  | 0, .bl _, _ => ⟨_, rfl, rfl, trivial⟩
  | 0, .int _, _ => ⟨_, rfl, rfl, trivial⟩
  | 0, .str _, _ => ⟨_, rfl, rfl, trivial⟩
  | _ + 1, .non, _ => .inl ⟨_, rfl, rfl, trivial⟩
  | _ + 1, .bl _, _ => .inl ⟨_, rfl, rfl, trivial⟩
  | _ + 1, .int _, _ => .inl ⟨_, rfl, rfl, trivial⟩
  | _ + 1, .str _, _ => .inl ⟨_, rfl, rfl, trivial⟩
  | n + 1, .tup ds, k => .inr ⟨ds, ds, .inr ⟨rfl, rfl⟩, rfl, k.1, fun i x y hx hy => by
      rw [hx] at hy; cases hy
      exact sm_ok (k.2 x (List.mem_of_getElem? hx))⟩
  | n + 1, .lst ds, k => .inr ⟨ds, ds, .inl ⟨rfl, rfl⟩, rfl, k.1, fun i x y hx hy => by
      rw [hx] at hy; cases hy
      exact sm_ok (k.2 x (List.mem_of_getElem? hx))⟩
theorem sameG_seq {n : Nat} {a b : D} {xs ys : List D} {h : GH} {N : GEnds} (h2 : (vw h a = .lst xs ∧ vw h b = .lst ys) ∨ (vw h a = .tup xs ∧ vw h b = .tup ys)) (hl : xs.length = ys.length) (hz : ys.length ≤ sizeLine) (ho : ∀ (i : Nat) (x y : D), xs[i]? = some x → ys[i]? = some y → SmD n h x y) (hN : N.rt (.bl true) h) :
    (sRet (gAndV (gBin (REq false) (gCB RLen (aCons (gVar 0) aNil)) (gCB RLen (aCons (gVar 1) aNil))) (gCB (RAll false) (aCons (gFr (fLc (iRg1 (aCons (gCB RLen (aCons (gVar 1) aNil)) aNil)) (tgName 2) gYes (gCall (S_sameG n) (aCons (gBin RIx (gVar 0) (gVar 2)) (aCons (gBin RIx (gVar 1) (gVar 2)) aNil))) [2])) aNil)))) N [some a, some b, none] h := by
  have ha : vw h a = .lst xs ∨ vw h a = .tup xs := h2.elim (fun z => .inl z.1) (fun z => .inr z.1)
  have hb : vw h b = .lst ys ∨ vw h b = .tup ys := h2.elim (fun z => .inl z.2) (fun z => .inr z.2)
  have hs : sizeLine = 16777216 := sizeLine_eq
  refine ⟨_, rfl, _, len_of ha, _, rfl, _, len_of hb, _, rfl, _, rfl, ?_⟩
  refine ite2 (fun _ => ?_) (fun c => absurd (decide_eq_true (by rw [hl])) c)
  refine ⟨_, rfl, _, len_of hb, _, rfl, ⟨by omega, by omega⟩, fun p hp => ?_⟩
  have ha2 : ∀ g, vw (put h p g) a = .lst xs ∨ vw (put h p g) a = .tup xs := fun g => ha.elim (fun z => .inl (vw_put hp z (fun _ q => nomatch q))) (fun z => .inr (vw_put hp z (fun _ q => nomatch q)))
  have hb2 : ∀ g, vw (put h p g) b = .lst ys ∨ vw (put h p g) b = .tup ys := fun g => hb.elim (fun z => .inl (vw_put hp z (fun _ q => nomatch q))) (fun z => .inr (vw_put hp z (fun _ q => nomatch q)))
  refine comp_rel (R := fun _ y => y = .bl true) hp _ [] (fun d hd acc Q hq => ?_) (by rw [rangeD_length, List.length_nil]; omega) fun zs hzs => ?_
  · obtain ⟨i, hi, rfl⟩ : ∃ i : Nat, i < ys.length ∧ d = .int (0 + (i : Nat)) := by
      obtain ⟨i, hi⟩ := List.mem_iff_getElem?.mp hd
      have := rangeD_get hi
      exact ⟨i, by have := this.1; omega, this.2⟩
    have hi2 : i < xs.length := by omega
    have hx : atI xs (0 + (i : Nat)) = some xs[i] := by
      rw [Int.zero_add]
      exact atI_nat (List.getElem?_eq_getElem hi2)
    have hy : atI ys (0 + (i : Nat)) = some ys[i] := by
      rw [Int.zero_add]
      exact atI_nat (List.getElem?_eq_getElem hi)
    have hox := ho i xs[i] ys[i] (List.getElem?_eq_getElem hi2) (List.getElem?_eq_getElem hi)
    exact ⟨_, rfl, _, rfl, _, ix_of (ha2 _) hx, _, rfl, _, rfl, _, ix_of (hb2 _) hy, _, _, rfl, hox.put hp, hq _ rfl⟩
  · have e := F2.map_eq hzs
    subst e
    rw [List.nil_append]
    refine ⟨_, ⟨_, _, _, rfl, rfl, bls_true _, rfl⟩, .inl ?_⟩
    have : ∀ l : List D, ((l.map fun _ => true).all id) = true := fun l => by
      rw [List.all_eq_true]
      intro x hx
      obtain ⟨_, _, rfl⟩ := List.mem_map.mp hx
      rfl
    show N.rt (.bl ((List.map (fun _ => true) _).all id)) h
    rw [this]
    exact hN
theorem sameG_atom {S' : GSpec} {a b d : D} {h : GH} {P : GP} (ea : vw h a = d) (eb : vw h b = d) (k : smA d) (hp : P (.bl true) h) : g_law_same S' { nx := fun _ h' => P .non h', rt := P } [some a, some b, none] h := by
  have ia := isN_vw ea
  have ib := isN_vw eb
  cases d with
  | non =>
    refine ⟨_, rfl, _, un_isN ib, _, rfl, ?_⟩
    refine iteT (iteT ?_)
    refine ⟨_, rfl, _, un_isN ia, _, rfl, ?_⟩
    refine iteT ⟨_, rfl, _, un_isN ib, .inl hp⟩
  | ref p => exact k.elim
  | ty p => exact k.elim
  | fro p => exact k.elim
  | tup p => exact k.elim
  | lst p => exact k.elim
  | bl x =>
    refine ⟨_, rfl, _, un_isN ib, _, rfl, iteF ⟨_, rfl, _, un_isN ia, _, rfl, iteF ?_⟩⟩
    refine ⟨_, rfl, _, isi2_of eb rfl kt5 kt6, _, rfl, iteF ?_⟩
    refine ⟨_, rfl, _, isi_of eb rfl kt11, _, rfl, _, isi_of ea rfl kt11, _, eq_bl, _, rfl, iteF ⟨_, rfl, _, isi_of eb rfl kt12, _, rfl, _, isi_of ea rfl kt12, _, eq_bl, _, rfl, iteF ?_⟩⟩
    refine ⟨_, rfl, _, isi_of eb rfl kt13, _, rfl, _, isi_of ea rfl kt13, _, eq_bl, _, rfl, iteT ⟨_, rfl, _, rfl, .bl true, ?_, .inl hp⟩⟩
    unfold REq
    rw [ea, eb]
    exact ⟨_, _, rfl, rfl, rfl, rfl, by cases x <;> rfl⟩
  | int x =>
    refine ⟨_, rfl, _, un_isN ib, _, rfl, iteF ⟨_, rfl, _, un_isN ia, _, rfl, iteF ?_⟩⟩
    refine ⟨_, rfl, _, isi2_of eb rfl kt7 kt8, _, rfl, iteF ?_⟩
    refine ⟨_, rfl, _, isi_of eb rfl kt14, _, rfl, _, isi_of ea rfl kt14, _, eq_bl, _, rfl, iteF ⟨_, rfl, _, isi_of eb rfl kt15, _, rfl, _, isi_of ea rfl kt15, _, eq_bl, _, rfl, iteF ?_⟩⟩
    refine ⟨_, rfl, _, isi_of eb rfl kt16, _, rfl, _, isi_of ea rfl kt16, _, eq_bl, _, rfl, iteT ⟨_, rfl, _, rfl, .bl true, ?_, .inl hp⟩⟩
    unfold REq
    rw [ea, eb]
    simp
  | str x =>
    refine ⟨_, rfl, _, un_isN ib, _, rfl, iteF ⟨_, rfl, _, un_isN ia, _, rfl, iteF ?_⟩⟩
    refine ⟨_, rfl, _, isi2_of eb rfl kt9 kt10, _, rfl, iteF ?_⟩
    refine ⟨_, rfl, _, isi_of eb rfl kt17, _, rfl, _, isi_of ea rfl kt17, _, eq_bl, _, rfl, iteF ⟨_, rfl, _, isi_of eb rfl kt18, _, rfl, _, isi_of ea rfl kt18, _, eq_bl, _, rfl, iteF ?_⟩⟩
    refine ⟨_, rfl, _, isi_of eb rfl kt19, _, rfl, _, isi_of ea rfl kt19, _, eq_bl, _, rfl, iteT ⟨_, rfl, _, rfl, .bl true, ?_, .inl hp⟩⟩
    unfold REq
    rw [ea, eb]
    simp
theorem pure_sameG (n : Nat) (ds : List D) (h : GH) (P : GP) (hs : S_sameG n ds h P) : g_law_same (S_prev S_sameG n) { nx := fun _ h' => P .non h', rt := P } (startG ["_law_found", "_law_due", "_law_k"] ds) h := by
  obtain ⟨a, b, rfl, hm, hp⟩ := hs
  show g_law_same _ _ [some a, some b, none] h
  cases n with
  | zero =>
    obtain ⟨d, ea, eb, k⟩ := hm
    exact sameG_atom ea eb k hp
  | succ n =>
    rcases hm with ⟨d, ea, eb, k⟩ | ⟨xs, ys, h2, hl, hz, ho⟩
    · exact sameG_atom ea eb k hp
    rcases h2 with ⟨ea, eb⟩ | ⟨ea, eb⟩
    · have ia := isN_vw ea
      have ib := isN_vw eb
      refine ⟨_, rfl, _, un_isN ib, _, rfl, iteF ⟨_, rfl, _, un_isN ia, _, rfl, iteF ?_⟩⟩
      refine ⟨_, rfl, _, isi2_of eb rfl kt1 kt2, _, rfl, iteT ?_⟩
      refine ⟨_, rfl, _, isi_of ea rfl kt1, _, rfl, _, isi_of eb rfl kt1, _, eq_bl, _, rfl, iteF ⟨_, rfl, _, isi_of ea rfl kt2, _, rfl, _, isi_of eb rfl kt2, _, eq_bl, _, rfl, iteF ?_⟩⟩
      exact sameG_seq (.inl ⟨ea, eb⟩) hl hz ho hp
    · have ia := isN_vw ea
      have ib := isN_vw eb
      refine ⟨_, rfl, _, un_isN ib, _, rfl, iteF ⟨_, rfl, _, un_isN ia, _, rfl, iteF ?_⟩⟩
      refine ⟨_, rfl, _, isi2_of eb rfl kt3 kt4, _, rfl, iteT ?_⟩
      refine ⟨_, rfl, _, isi_of ea rfl kt3, _, rfl, _, isi_of eb rfl kt3, _, eq_bl, _, rfl, iteF ⟨_, rfl, _, isi_of ea rfl kt4, _, rfl, _, isi_of eb rfl kt4, _, eq_bl, _, rfl, iteF ?_⟩⟩
      exact sameG_seq (.inr ⟨ea, eb⟩) hl hz ho hp
theorem len_sameG (n : Nat) (ds : List D) (h : GH) (P : GP) (hs : S_sameG n ds h P) : ds.length = 2 := by obtain ⟨a, b, rfl, _⟩ := hs; rfl
end K19

set_option maxHeartbeats 2000000
namespace K19
open PySem L2 Gh
def isi (O : Oc) : Addr → Addr → Bool → Prop := fun C T b => (C = O.cS ∧ T = O.cS ∧ b = true) ∨ (C = O.cB ∧ T = O.cS ∧ b = true) ∨ (C = O.cH ∧ T = O.cS ∧ b = true) ∨ (C = O.cS ∧ T = O.cB ∧ b = false) ∨ (C = O.cS ∧ T = O.cH ∧ b = false) ∨ (C = O.cB ∧ T = O.cH ∧ b = false) ∨
  (C = O.cH ∧ T = O.cB ∧ b = false) ∨ (C = O.cB ∧ T = O.cB ∧ b = true) ∨ (C = O.cH ∧ T = O.cH ∧ b = true)
def S_bI (O : Oc) : GSpec := S_xI O O.cB "value"
def S_hI (O : Oc) : GSpec := S_xI O O.cH "player"
def S_bN (O : Oc) : GSpec := S_xN O O.cB "value"
def S_hN (O : Oc) : GSpec := S_xN O O.cH "player"
def sel (O : Oc) : Addr → GSpec → Prop := fun C S => (C = O.cS ∧ S = S_sN O) ∨ (C = O.cB ∧ S = S_bN O) ∨ (C = O.cH ∧ S = S_hN O)
def g_again (O : Oc) : gTS := (sSeq (sSet 11 (gFr (fLc (iSeq (gVar 9)) (tgName 13) gYes (gMeth (sel O) "numbers" (gVar 13) aNil) [13])))
 (sSeq (sIf (gNot (gB (gCall (S_sameG 3) (aCons (gVar 11) (aCons (gFr (fLst (aCons (gBin RAdd (gVar 3) (gVar 4)) (aCons (gBin RAdd (gBin RAdd (gVar 3) (gVar 4)) (gFr (fLst (aCons (gVar 5) aNil)))) (aCons (gBin RAdd (gBin RAdd (gVar 3) (gVar 4)) (gFr (fLst (aCons (gVar 6) aNil)))) aNil))))) aNil)))))
  (sRetX (gC (.bl false)))
  sNext)
 (sFor (iSeq (gVar 11)) (tgName 12)
  (sDrop (gMl RClear (gVar 12) aNil)))))
def g_sheet (O : Oc) : gTS := (sIf (gOr (gNot (gB (gCall (S_sameG 3) (aCons (gFr (fLst (aCons (gFld (F3 O) "equal" (gVar 13)) (aCons (gFld (F3 O) "above" (gVar 13)) aNil)))) (aCons (gFr (fLst (aCons (gVar 3) (aCons (gVar 4) aNil)))) aNil))))) (gNot (gB (gCB (RIsiO (isi O)) (aCons (gVar 13) (aCons (gC (.ref O.cS)) aNil))))))
  (sRetX (gC (.bl false)))
  sNext)
def g_rest (O : Oc) : gTS := (sSeq (sIf (gNot (gB (gCall (S_sameG 3) (aCons (gFr (fLst (aCons (gFld (F3 O) "value" (gBin RIx (gVar 9) (gC (.int 1)))) (aCons (gFld (F3 O) "player" (gBin RIx (gVar 9) (gC (.int 2)))) aNil)))) (aCons (gFr (fLst (aCons (gVar 5) (aCons (gVar 6) aNil)))) aNil)))))
  (sRetX (gC (.bl false)))
  sNext)
 (sSeq (sSet 14 (gFr (fLst (aCons (gCB (RIsiO (isi O)) (aCons (gBin RIx (gVar 9) (gC (.int 0))) (aCons (gC (.ref O.cB)) aNil))) (aCons (gCB (RIsiO (isi O)) (aCons (gBin RIx (gVar 9) (gC (.int 0))) (aCons (gC (.ref O.cH)) aNil))) (aCons (gCB (RIsiO (isi O)) (aCons (gBin RIx (gVar 9) (gC (.int 1))) (aCons (gC (.ref O.cH)) aNil))) aNil))))))
 (sSeq (sIf (gOr (gB (gCB (RAll true) (aCons (gVar 14) aNil))) (gOr (gB (gCB (RIsiO (isi O)) (aCons (gBin RIx (gVar 9) (gC (.int 2))) (aCons (gC (.ref O.cB)) aNil)))) (gOr (gNot (gB (gCB (RIsiO (isi O)) (aCons (gBin RIx (gVar 9) (gC (.int 1))) (aCons (gC (.ref O.cB)) aNil))))) (gNot (gB (gCB (RIsiO (isi O)) (aCons (gBin RIx (gVar 9) (gC (.int 2))) (aCons (gC (.ref O.cH)) aNil))))))))
  (sRetX (gC (.bl false)))
  sNext)
 (sIf (gB (gBin (REq true) (gMeth (sel O) "numbers" (gMake O.cS (S_sI O) (aCons (gCB RTuple (aCons (gVar 3) aNil)) (aCons (gCB RTuple (aCons (gVar 4) aNil)) aNil))) aNil) (gBin RAdd (gVar 3) (gVar 4))))
  (sRetX (gC (.bl false)))
  sNext))))
def b_law (O : Oc) : gTS := (sSeq (sSet 3 (gFr (fLc (iRg1 (aCons (gCall S_law_pull (aCons (gVar 1) (aCons (gC (.int 6)) aNil))) aNil)) (tgName 15) gYes (gCall S_law_ratio (aCons (gVar 1) (aCons (gC (.int 50)) aNil))) [15])))
 (sSeq (sSet 4 (gFr (fLc (iRg1 (aCons (gCall S_law_pull (aCons (gVar 1) (aCons (gC (.int 5)) aNil))) aNil)) (tgName 15) gYes (gCall S_law_ratio (aCons (gVar 1) (aCons (gC (.int 50)) aNil))) [15])))
 (sSeq (sPar 5 6 (aCons (gCall S_law_ratio (aCons (gVar 1) (aCons (gC (.int 50)) aNil))) (aCons (gBin RAdd (gC (.int 1)) (gCall S_law_pull (aCons (gVar 1) (aCons (gC (.int 5)) aNil)))) aNil)))
 (sSeq (sPar 7 8 (aCons (gOw (fList (aCons (gVar 3) aNil))) (aCons (gOw (fList (aCons (gVar 4) aNil))) aNil)))
 (sSeq (sSet 9 (gFr (fLst (aCons (gMake O.cS (S_sI O) (aCons (gVar 7) (aCons (gVar 8) aNil))) (aCons (gMake O.cB (S_bI O) (aCons (gVar 7) (aCons (gVar 8) (aCons (gVar 5) aNil)))) (aCons (gMake O.cH (S_hI O) (aCons (gVar 7) (aCons (gVar 8) (aCons (gVar 6) aNil)))) aNil))))))
 (sSeq (sDrop (gMl RClear (gVar 7) aNil))
 (sSeq (sDrop (gMl RApp (gVar 8) (aCons (gTup (aCons (gC (.int 1)) (aCons (gC (.int 1)) aNil))) aNil)))
 (sSeq (sFor (iRg1 (aCons (gC (.int 2)) aNil)) (tgName 10) (g_again O))
 (sSeq (sFor (iSeq (gVar 9)) (tgName 13) (g_sheet O))
 (g_rest O))))))))))
def g_law (O : Oc) : gTS := (sSeq (sSet 1 (gCall S_law_bag (aCons (gVar 0) aNil)))
 (sSeq (sFor (iRg1 (aCons (gC (.int 5)) aNil)) (tgName 2) (b_law O))
 (sRetX (gC (.bl true)))))
/-! ## what stands during a turn -/
structure T (O : Oc) (b a1 a2 a3 : Addr) (X Y : List D) (v : D) (u : Int) (h : GH) : Prop where
  bag : h b = some .bag
  s1 : h a1 = some (.ins O.cS (fs0 X Y))
  s2 : h a2 = some (.ins O.cB (fs1 "value" X Y v))
  s3 : h a3 = some (.ins O.cH (fs1 "player" X Y (.int u)))
section
variable {O : Oc} {b a1 a2 a3 : Addr} {X Y : List D} {v : D} {u : Int} {h : GH}
theorem T.new {p : Addr} {g : GO} (t : T O b a1 a2 a3 X Y v u h) (n : h p = none) : T O b a1 a2 a3 X Y v u (put h p g) := ⟨put_old n t.bag, put_old n t.s1, put_old n t.s2, put_old n t.s3⟩
theorem T.lst {p : Addr} {g : GO} {ds : List D} (t : T O b a1 a2 a3 X Y v u h) (n : h p = some (.lst ds)) : T O b a1 a2 a3 X Y v u (put h p g) := by
  have ne : ∀ {q : Addr} {o : GO}, h q = some o → (∀ ds, o ≠ .lst ds) → q ≠ p := fun e k z => by subst z; rw [n] at e; cases e; exact k ds rfl
  refine ⟨?_, ?_, ?_, ?_⟩
  · rw [put_ne (ne t.bag fun _ z => nomatch z)]; exact t.bag
  · rw [put_ne (ne t.s1 fun _ z => nomatch z)]; exact t.s1
  · rw [put_ne (ne t.s2 fun _ z => nomatch z)]; exact t.s2
  · rw [put_ne (ne t.s3 fun _ z => nomatch z)]; exact t.s3
theorem T.del {p : Addr} {ds : List D} (t : T O b a1 a2 a3 X Y v u h) (n : h p = some (.lst ds)) : T O b a1 a2 a3 X Y v u (del h p) := by
  have ne : ∀ {q : Addr} {o : GO}, h q = some o → (∀ ds, o ≠ .lst ds) → q ≠ p := fun e k z => by subst z; rw [n] at e; cases e; exact k ds rfl
  refine ⟨?_, ?_, ?_, ?_⟩
  · rw [del_ne (ne t.bag fun _ z => nomatch z)]; exact t.bag
  · rw [del_ne (ne t.s1 fun _ z => nomatch z)]; exact t.s1
  · rw [del_ne (ne t.s2 fun _ z => nomatch z)]; exact t.s2
  · rw [del_ne (ne t.s3 fun _ z => nomatch z)]; exact t.s3
end
theorem ne_of {h : GH} {p q : Addr} {o : GO} (n : h p = none) (e : h q = some o) : p ≠ q := fun z => by subst z; rw [n] at e; cases e
theorem isL {h : GH} {p q : Addr} {ds x : List D} (e : h q = some (.lst ds)) : ∃ ds', put h p (.lst x) q = some (.lst ds') := by
  by_cases z : q = p
  · subst z; exact ⟨_, put_same⟩
  · exact ⟨_, (put_ne z).trans e⟩
theorem lkE0 (X Y : List D) : (fs0 X Y).lookup ("equal" : Str) = some (.lst X) := lk_same
theorem lkA0 (X Y : List D) : (fs0 X Y).lookup ("above" : Str) = some (.lst Y) := (lk_ne (by decide)).trans lk_same
theorem lkN0 (X Y : List D) : (fs0 X Y).lookup ("numbers" : Str) = none := (lk_ne (by decide)).trans ((lk_ne (by decide)).trans rfl)
theorem lkE1 (f : Str) (X Y : List D) (v : D) : (fs1 f X Y v).lookup ("equal" : Str) = some (.lst X) := lk_same
theorem lkA1 (f : Str) (X Y : List D) (v : D) : (fs1 f X Y v).lookup ("above" : Str) = some (.lst Y) := (lk_ne (by decide)).trans lk_same
theorem lkNv (X Y : List D) (v : D) : (fs1 "value" X Y v).lookup ("numbers" : Str) = none := (lk_ne (by decide)).trans ((lk_ne (by decide)).trans ((lk_ne (by decide)).trans rfl))
theorem lkNp (X Y : List D) (v : D) : (fs1 "player" X Y v).lookup ("numbers" : Str) = none := (lk_ne (by decide)).trans ((lk_ne (by decide)).trans ((lk_ne (by decide)).trans rfl))
theorem lkV (X Y : List D) (v : D) : (fs1 "value" X Y v).lookup ("value" : Str) = some v := (lk_ne (by decide)).trans ((lk_ne (by decide)).trans lk_same)
theorem lkP (X Y : List D) (v : D) : (fs1 "player" X Y v).lookup ("player" : Str) = some v := (lk_ne (by decide)).trans ((lk_ne (by decide)).trans lk_same)
theorem small {n : Nat} (h : n ≤ 100) : n ≤ sizeLine := Nat.le_trans h (by decide)
/-- the three lists of numbers -/
theorem found_comp {O : Oc} {b a1 a2 a3 : Addr} {X Y : List D} {v : D} {u : Int} {h : GH} (t : T O b a1 a2 a3 X Y v u h) (hX : X.length + Y.length ≤ 20) {p : Addr} (hp : h p = none) {o0 o1 o2 o3 o4 o5 o6 o7 o8 o9 o10 o11 o12 o14 o15 : Option D} {P : List D → GH → Prop}
    (k : ∀ h' p1 p2 p3, T O b a1 a2 a3 X Y v u h' → h' p1 = some (.lst (X ++ Y)) → h' p2 = some (.lst ((X ++ Y) ++ [v])) → h' p3 = some (.lst ((X ++ Y) ++ [.int u])) → P [.ref p1, .ref p2, .ref p3] h') :
    gComp (tgName 13) gYes (gMeth (sel O) "numbers" (gVar 13) aNil) [o0, o1, o2, o3, o4, o5, o6, o7, o8, o9, o10, o11, o12, none, o14, o15] p P [.ref a1, .ref a2, .ref a3] [] (put h p (.lst [])) := by
  have hz : X.length + Y.length ≤ sizeLine := small (by omega)
  have hz1 : X.length + Y.length + 1 ≤ sizeLine := small (by omega)
  have t0 := t.new (g := .lst []) hp
  refine ⟨_, rfl, a1, O.cS, _, S_sN O, rfl, t0.s1, lkN0 X Y, .inl ⟨rfl, rfl⟩, ?_⟩
  refine ⟨a1, O.cS, _, X, Y, rfl, t0.s1, .inl rfl, lkE0 X Y, lkA0 X Y, hz, fun p1 n1 => ⟨by decide, put_old n1 put_same, ?_⟩⟩
  have e1 : p ≠ p1 := fun z => by subst z; rw [put_same] at n1; cases n1
  have t1 := (t0.new (g := .lst (X ++ Y)) n1).lst (g := .lst ([] ++ [.ref p1])) (put_old n1 put_same)
  have q1 : put (put (put h p (.lst [])) p1 (.lst (X ++ Y))) p (.lst ([] ++ [.ref p1])) p1 = some (.lst (X ++ Y)) := (put_ne (Ne.symm e1)).trans put_same
  refine ⟨_, rfl, a2, O.cB, _, S_bN O, rfl, t1.s2, lkNv X Y v, .inr (.inl ⟨rfl, rfl⟩), ?_⟩
  refine ⟨a2, X, Y, v, rfl, t1.s2, hz1, fun p2 n2 => ⟨by show 1 < sizeLine; decide, put_old n2 put_same, ?_⟩⟩
  have e2 : p ≠ p2 := fun z => by subst z; rw [put_same] at n2; cases n2
  have t2 := (t1.new (g := .lst ((X ++ Y) ++ [v])) n2).lst (g := .lst (([] ++ [.ref p1]) ++ [.ref p2])) (put_old n2 put_same)
  have q2 : put (put (put (put (put h p (.lst [])) p1 (.lst (X ++ Y))) p (.lst ([] ++ [.ref p1]))) p2 (.lst ((X ++ Y) ++ [v]))) p (.lst (([] ++ [.ref p1]) ++ [.ref p2])) p2 = some (.lst ((X ++ Y) ++ [v])) := (put_ne (Ne.symm e2)).trans put_same
  have q12 : put (put (put (put (put h p (.lst [])) p1 (.lst (X ++ Y))) p (.lst ([] ++ [.ref p1]))) p2 (.lst ((X ++ Y) ++ [v]))) p (.lst (([] ++ [.ref p1]) ++ [.ref p2])) p1 = some (.lst (X ++ Y)) := (put_ne (Ne.symm e1)).trans (put_old n2 q1)
  refine ⟨_, rfl, a3, O.cH, _, S_hN O, rfl, t2.s3, lkNp X Y _, .inr (.inr ⟨rfl, rfl⟩), ?_⟩
  refine ⟨a3, X, Y, .int u, rfl, t2.s3, hz1, fun p3 n3 => ⟨by show 2 < sizeLine; decide, put_old n3 put_same, ?_⟩⟩
  have e3 : p ≠ p3 := fun z => by subst z; rw [put_same] at n3; cases n3
  have t3 := ((t2.new (g := .lst ((X ++ Y) ++ [.int u])) n3).lst (g := .lst ((([] ++ [.ref p1]) ++ [.ref p2]) ++ [.ref p3])) (put_old n3 put_same)).del (p := p) put_same
  refine k _ p1 p2 p3 t3 ?_ ?_ ?_
  · rw [del_ne (Ne.symm e1), put_ne (Ne.symm e1)]
    exact put_old n3 q12
  · rw [del_ne (Ne.symm e2), put_ne (Ne.symm e2)]
    exact put_old n3 q2
  · rw [del_ne (Ne.symm e3), put_ne (Ne.symm e3)]
    exact put_same
theorem sm_self {n : Nat} {h : GH} {a : D} {xs : List D} (e : vw h a = .lst xs) (hz : xs.length ≤ sizeLine) (k : ∀ x ∈ xs, okD n x) : SmD (n + 1) h a (.lst xs) :=
  .inr ⟨xs, xs, .inl ⟨e, rfl⟩, rfl, hz, fun i x y hx hy => by rw [hx] at hy; cases hy; exact sm_ok (k x (List.mem_of_getElem? hx))⟩
theorem mem_app {α : Type} {P : α → Prop} {l r : List α} (h1 : ∀ x ∈ l, P x) (h2 : ∀ x ∈ r, P x) : ∀ x ∈ l ++ r, P x := fun x hx => by
  rcases List.mem_append.mp hx with z | z
  · exact h1 x z
  · exact h2 x z
theorem again_body {O : Oc} {b a1 a2 a3 : Addr} {X Y : List D} {v : D} {u : Int} {h : GH} (t : T O b a1 a2 a3 X Y v u h) (hX : X.length + Y.length ≤ 20) (oX : ∀ x ∈ X, okD 1 x) (oY : ∀ x ∈ Y, okD 1 x) (ov : okD 1 v) {N : GEnds} {o0 o1 o2 o7 o8 o10 o11 o12 o13 o14 o15 : Option D}
    (k : ∀ h' o11 o12, T O b a1 a2 a3 X Y v u h' → N.nx [o0, o1, o2, some (.lst X), some (.lst Y), some v, some (.int u), o7, o8, some (.lst [.ref a1, .ref a2, .ref a3]), o10, o11, o12, o13, o14, o15] h') :
    g_again O N [o0, o1, o2, some (.lst X), some (.lst Y), some v, some (.int u), o7, o8, some (.lst [.ref a1, .ref a2, .ref a3]), o10, o11, o12, o13, o14, o15] h := by
  have hl : (X ++ Y).length ≤ 20 := by rw [List.length_append]; exact hX
  have hz : X.length + Y.length ≤ sizeLine := small (by omega)
  have hz1 : (X ++ Y).length + [v].length ≤ sizeLine := small (by show (X ++ Y).length + 1 ≤ 100; omega)
  have oXY := mem_app oX oY
  refine ⟨_, rfl, fun p hp => ?_⟩
  refine found_comp t hX hp fun h1 p1 p2 p3 t1 q1 q2 q3 => ?_
  refine ⟨_, rfl, _, rfl, _, rfl, _, ⟨hz, rfl⟩, ?_⟩
  refine ⟨_, rfl, _, rfl, _, ⟨hz, rfl⟩, _, rfl, by show 1 ≤ sizeLine; decide, _, ⟨hz1, rfl⟩, ?_⟩
  refine ⟨_, rfl, _, rfl, _, ⟨hz, rfl⟩, _, rfl, by show 1 ≤ sizeLine; decide, _, ⟨hz1, rfl⟩, by show 3 ≤ sizeLine; decide, ?_⟩
  have m1 : SmD 2 h1 (.ref p1) (.lst (X ++ Y)) := sm_self (vw_own q1) (small (by omega)) oXY
  have m2 : SmD 2 h1 (.ref p2) (.lst ((X ++ Y) ++ [v])) := sm_self (vw_own q2) (by rw [List.length_append]; exact hz1) (mem_app oXY (fun x hx => by cases List.mem_singleton.mp hx; exact ov))
  have m3 : SmD 2 h1 (.ref p3) (.lst ((X ++ Y) ++ [.int u])) := sm_self (vw_own q3) (by rw [List.length_append]; exact hz1) (mem_app oXY (fun x hx => by cases List.mem_singleton.mp hx; trivial))
  refine ⟨_, _, rfl, .inr ⟨_, _, .inl ⟨rfl, rfl⟩, rfl, by show 3 ≤ sizeLine; decide, fun i x y hx hy => ?_⟩, _, rfl, iteF ?_⟩
  · match i, hx, hy with
    | 0, hx, hy => cases hx; cases hy; exact m1
    | 1, hx, hy => cases hx; cases hy; exact m2
    | 2, hx, hy => cases hx; cases hy; exact m3
    | n + 3, hx, _ => simp at hx
  refine ⟨_, rfl, ?_⟩
  refine ⟨_, rfl, p1, _, rfl, q1, _, [], .non, q1, ⟨rfl, rfl, rfl⟩, ?_⟩
  have t2 := t1.lst (g := .lst []) q1
  obtain ⟨y2, r2⟩ := isL (p := p1) (x := []) q2
  obtain ⟨y3, r3⟩ := isL (p := p1) (x := []) q3
  refine ⟨_, rfl, p2, _, rfl, r2, _, [], .non, r2, ⟨rfl, rfl, rfl⟩, ?_⟩
  have t3 := t2.lst (g := .lst []) r2
  obtain ⟨y4, r4⟩ := isL (p := p2) (x := []) r3
  refine ⟨_, rfl, p3, _, rfl, r4, _, [], .non, r4, ⟨rfl, rfl, rfl⟩, ?_⟩
  exact k _ _ _ (t3.lst (g := .lst []) r4)
theorem again {O : Oc} {b a1 a2 a3 : Addr} {X Y : List D} {v : D} {u : Int} (hX : X.length + Y.length ≤ 20) (oX : ∀ x ∈ X, okD 1 x) (oY : ∀ x ∈ Y, okD 1 x) (ov : okD 1 v) {N : GEnds} {o0 o1 o2 o7 o8 o13 o14 o15 : Option D}
    (k : ∀ h' o10 o11 o12, T O b a1 a2 a3 X Y v u h' → N.nx [o0, o1, o2, some (.lst X), some (.lst Y), some v, some (.int u), o7, o8, some (.lst [.ref a1, .ref a2, .ref a3]), o10, o11, o12, o13, o14, o15] h') :
    ∀ (ds : List D) (h : GH) (o10 o11 o12 : Option D), T O b a1 a2 a3 X Y v u h → gLoop (tgName 10) (g_again O) N ds [o0, o1, o2, some (.lst X), some (.lst Y), some v, some (.int u), o7, o8, some (.lst [.ref a1, .ref a2, .ref a3]), o10, o11, o12, o13, o14, o15] h
  | [], h, o10, o11, o12, t => k h _ _ _ t
  | d :: r, h, o10, o11, o12, t => again_body (N := { nx := gLoop (tgName 10) (g_again O) N r, ct := gLoop (tgName 10) (g_again O) N r, bk := N.nx, rt := N.rt }) t hX oX oY ov fun h' o11 o12 t' => again hX oX oY ov k r h' _ o11 o12 t'
/-! ## each sheet's fields -/
theorem sheet_body {O : Oc} {C a : Addr} {fs : List (Str × D)} {X Y : List D} {h : GH} (e : h a = some (.ins C fs)) (hC : F3 O C) (hi : isi O C O.cS true) (l1 : fs.lookup ("equal" : Str) = some (.lst X)) (l2 : fs.lookup ("above" : Str) = some (.lst Y)) (oX : okD 2 (.lst X)) (oY : okD 2 (.lst Y)) {N : GEnds} {o0 o1 o2 o5 o6 o7 o8 o9 o10 o11 o12 o14 o15 : Option D}
    (k : N.nx [o0, o1, o2, some (.lst X), some (.lst Y), o5, o6, o7, o8, o9, o10, o11, o12, some (.ref a), o14, o15] h) :
    g_sheet O N [o0, o1, o2, some (.lst X), some (.lst Y), o5, o6, o7, o8, o9, o10, o11, o12, some (.ref a), o14, o15] h := by
  refine ⟨_, rfl, a, C, fs, _, rfl, e, hC, l1, _, rfl, a, C, fs, _, rfl, e, hC, l2, two_le, _, rfl, _, rfl, two_le, ?_⟩
  refine ⟨_, _, rfl, sm_ok (okD_lst two_le (mem2 oX oY)), _, rfl, iteF ?_⟩
  exact ⟨_, rfl, _, ⟨a, C, fs, O.cS, true, rfl, e, hi, rfl⟩, _, rfl, iteF k⟩
theorem rest_body {O : Oc} {b a1 a2 a3 : Addr} {ps qs : List (Int × Int)} {v : D} {u : Int} {h : GH} (t : T O b a1 a2 a3 (ps.map fr) (qs.map fr) v u h) (hX : ps.length + qs.length ≤ 20) (ov : okD 2 v) {N : GEnds} {o0 o1 o2 o7 o8 o10 o11 o12 o13 o14 o15 : Option D}
    (k : ∀ h' o14, h' b = some .bag → N.nx [o0, o1, o2, some (.lst (ps.map fr)), some (.lst (qs.map fr)), some v, some (.int u), o7, o8, some (.lst [.ref a1, .ref a2, .ref a3]), o10, o11, o12, o13, o14, o15] h') :
    g_rest O N [o0, o1, o2, some (.lst (ps.map fr)), some (.lst (qs.map fr)), some v, some (.int u), o7, o8, some (.lst [.ref a1, .ref a2, .ref a3]), o10, o11, o12, o13, o14, o15] h := by
  have i0 : ∀ h : GH, RIx h (.lst [.ref a1, .ref a2, .ref a3]) (.int 0) (.ref a1) := fun h => ix_of (.inl rfl) (atI_nat (j := 0) rfl)
  have i1 : ∀ h : GH, RIx h (.lst [.ref a1, .ref a2, .ref a3]) (.int 1) (.ref a2) := fun h => ix_of (.inl rfl) (atI_nat (j := 1) rfl)
  have i2 : ∀ h : GH, RIx h (.lst [.ref a1, .ref a2, .ref a3]) (.int 2) (.ref a3) := fun h => ix_of (.inl rfl) (atI_nat (j := 2) rfl)
  have hz : (ps.map fr).length + (qs.map fr).length ≤ sizeLine := by rw [List.length_map, List.length_map]; exact small (by omega)
  refine ⟨_, rfl, _, i1 h, a2, O.cB, _, v, rfl, t.s2, .inr (.inl rfl), lkV _ _ v, ?_⟩
  refine ⟨_, rfl, _, i2 h, a3, O.cH, _, .int u, rfl, t.s3, .inr (.inr rfl), lkP _ _ _, two_le, ?_⟩
  refine ⟨_, rfl, _, rfl, two_le, _, _, rfl, sm_ok (n := 3) (okD_lst two_le (mem2 ov trivial)), _, rfl, iteF ?_⟩
  refine ⟨_, rfl, _, i0 h, _, ⟨a1, O.cS, _, O.cB, false, rfl, t.s1, .inr (.inr (.inr (.inl ⟨rfl, rfl, rfl⟩))), rfl⟩, ?_⟩
  refine ⟨_, rfl, _, i0 h, _, ⟨a1, O.cS, _, O.cH, false, rfl, t.s1, .inr (.inr (.inr (.inr (.inl ⟨rfl, rfl, rfl⟩)))), rfl⟩, ?_⟩
  refine ⟨_, rfl, _, i1 h, _, ⟨a2, O.cB, _, O.cH, false, rfl, t.s2, .inr (.inr (.inr (.inr (.inr (.inl ⟨rfl, rfl, rfl⟩))))), rfl⟩, by show 3 ≤ sizeLine; decide, ?_⟩
  refine ⟨_, rfl, _, ⟨_, _, [false, false, false], rfl, rfl, rfl, rfl⟩, _, rfl, iteF ?_⟩
  refine ⟨_, rfl, _, i2 h, _, ⟨a3, O.cH, _, O.cB, false, rfl, t.s3, .inr (.inr (.inr (.inr (.inr (.inr (.inl ⟨rfl, rfl, rfl⟩)))))), rfl⟩, _, rfl, iteF ?_⟩
  refine ⟨_, rfl, _, i1 h, _, ⟨a2, O.cB, _, O.cB, true, rfl, t.s2, .inr (.inr (.inr (.inr (.inr (.inr (.inr (.inl ⟨rfl, rfl, rfl⟩))))))), rfl⟩, _, rfl, iteF ?_⟩
  refine ⟨_, rfl, _, i2 h, _, ⟨a3, O.cH, _, O.cH, true, rfl, t.s3, .inr (.inr (.inr (.inr (.inr (.inr (.inr (.inr ⟨rfl, rfl, rfl⟩))))))), rfl⟩, _, rfl, iteF ?_⟩
  refine ⟨_, rfl, _, ⟨_, _, rfl, .inl rfl, rfl⟩, _, rfl, _, ⟨_, _, rfl, .inl rfl, rfl⟩, fun q hq => ?_⟩
  refine ⟨q, O.cS, _, _, _, _, rfl, put_same, .inl rfl, .inr rfl, .inr rfl, rfl, ?_⟩
  refine ⟨q, O.cS, _, S_sN O, rfl, put_same, lkN0 _ _, .inl ⟨rfl, rfl⟩, ?_⟩
  refine ⟨q, O.cS, _, _, _, rfl, put_same, .inl rfl, lkE0 _ _, lkA0 _ _, hz, fun p hp => ?_⟩
  rw [put_put] at hp ⊢
  refine ⟨_, rfl, _, rfl, _, ⟨hz, rfl⟩, .bl false, ?_, _, rfl, iteF ?_⟩
  · unfold REq
    rw [vw_own put_same]
    have := ne_same (h := h) (ps := ps ++ qs)
    rw [List.map_append] at this
    exact this
  · exact k _ _ (put_old hp (put_old hq t.bag))
theorem len_map {ps : List (Int × Int)} : (ps.map fr).length = ps.length := List.length_map _
theorem okfr (n : Nat) (ps : List (Int × Int)) : ∀ x ∈ ps.map fr, okD (n + 1) x := fun x hx => by
  obtain ⟨p, _, rfl⟩ := List.mem_map.mp hx
  exact okD_fr n p
theorem turn {O : Oc} {b : Addr} {h : GH} (hb : h b = some .bag) {N : GEnds} {o0 : Option D} (o2 o3 o4 o5 o6 o7 o8 o9 o10 o11 o12 o13 o14 o15 : Option D)
    (k : ∀ h' o3 o4 o5 o6 o7 o8 o9 o10 o11 o12 o13 o14 o15, h' b = some .bag → N.nx [o0, some (.ref b), o2, o3, o4, o5, o6, o7, o8, o9, o10, o11, o12, o13, o14, o15] h') :
    b_law O N [o0, some (.ref b), o2, o3, o4, o5, o6, o7, o8, o9, o10, o11, o12, o13, o14, o15] h := by
  -- _law_equal
  refine ⟨_, rfl, b, 6, rfl, hb, by decide, by decide +kernel, fun n6 a6 b6 => ⟨n6, rfl, ⟨by omega, by omega⟩, fun p hp => ?_⟩⟩
  refine comp_rel (R := fun _ y => ∃ q, y = fr q ∧ True) hp _ [] (fun d hd acc Q hq => ?_) (by rw [rangeD_length, List.length_nil]; exact small (by omega)) fun ys hys => ?_
  · exact ⟨_, rfl, b, 50, rfl, put_old hp hb, by decide, by decide, fun q hl h1 h2 => hq _ ⟨q, rfl, trivial⟩⟩
  obtain ⟨ps, e, hlp, _⟩ := hys.frs
  subst e
  rw [List.nil_append]
  rw [rangeD_length] at hlp
  clear hys
  -- _law_above
  refine ⟨_, rfl, b, 5, rfl, hb, by decide, by decide +kernel, fun n5 a5 b5 => ⟨n5, rfl, ⟨by omega, by omega⟩, fun p hp => ?_⟩⟩
  refine comp_rel (R := fun _ y => ∃ q, y = fr q ∧ True) hp _ [] (fun d hd acc Q hq => ?_) (by rw [rangeD_length, List.length_nil]; exact small (by omega)) fun ys hys => ?_
  · exact ⟨_, rfl, b, 50, rfl, put_old hp hb, by decide, by decide, fun q hl h1 h2 => hq _ ⟨q, rfl, trivial⟩⟩
  obtain ⟨qs, e, hlq, _⟩ := hys.frs
  subst e
  rw [List.nil_append]
  rw [rangeD_length] at hlq
  clear hys
  have hX : ps.length + qs.length ≤ 20 := by omega
  have hX2 : (ps.map fr).length + (qs.map fr).length ≤ 20 := by rw [len_map, len_map]; exact hX
  -- _law_value, _law_player
  refine ⟨_, rfl, b, 50, rfl, hb, by decide, by decide, fun v _ _ _ => ?_⟩
  refine ⟨_, rfl, b, 5, rfl, hb, by decide, by decide +kernel, fun u' _ _ => ⟨_, rfl, _, _, rfl, ?_⟩⟩
  generalize (1 + u' : Int) = u
  -- _law_given, _law_more
  refine ⟨_, rfl, _, _, rfl, .inl rfl, fun g hg => ?_⟩
  refine ⟨_, rfl, _, _, rfl, .inl rfl, fun m hm => ⟨_, _, rfl, ?_⟩⟩
  have hg2 : put (put h g (.lst (ps.map fr))) m (.lst (qs.map fr)) g = some (.lst (ps.map fr)) := put_old hm put_same
  have hm2 : put (put h g (.lst (ps.map fr))) m (.lst (qs.map fr)) m = some (.lst (qs.map fr)) := put_same
  have hb2 : put (put h g (.lst (ps.map fr))) m (.lst (qs.map fr)) b = some .bag := put_old hm (put_old hg hb)
  have hne : g ≠ m := fun z => by subst z; rw [put_same] at hm; cases hm
  generalize put (put h g (.lst (ps.map fr))) m (.lst (qs.map fr)) = h2 at hg2 hm2 hb2 ⊢
  -- _law_some
  refine ⟨_, rfl, _, rfl, fun a1 n1 => ?_⟩
  refine ⟨a1, O.cS, _, _, ps.map fr, qs.map fr, rfl, put_same, .inl rfl, .inl (vw_own (put_old n1 hg2)), .inl (vw_own (put_old n1 hm2)), rfl, ?_⟩
  rw [put_put]
  have g3 := put_old (g' := .ins O.cS (fs0 (ps.map fr) (qs.map fr))) n1 hg2
  have m3 := put_old (g' := .ins O.cS (fs0 (ps.map fr) (qs.map fr))) n1 hm2
  have b3 := put_old (g' := .ins O.cS (fs0 (ps.map fr) (qs.map fr))) n1 hb2
  have s3 : put h2 a1 (.ins O.cS (fs0 (ps.map fr) (qs.map fr))) a1 = some (.ins O.cS (fs0 (ps.map fr) (qs.map fr))) := put_same
  generalize put h2 a1 (.ins O.cS (fs0 (ps.map fr) (qs.map fr))) = h3 at g3 m3 b3 s3 ⊢
  refine ⟨_, rfl, _, rfl, _, rfl, fun a2 n2 => ?_⟩
  refine ⟨a2, _, _, _, ps.map fr, qs.map fr, rfl, put_same, .inl (vw_own (put_old n2 g3)), .inl (vw_own (put_old n2 m3)), rfl, ?_⟩
  rw [put_put]
  have g4 := put_old (g' := .ins O.cB (fs1 "value" (ps.map fr) (qs.map fr) (fr v))) n2 g3
  have m4 := put_old (g' := .ins O.cB (fs1 "value" (ps.map fr) (qs.map fr) (fr v))) n2 m3
  have b4 := put_old (g' := .ins O.cB (fs1 "value" (ps.map fr) (qs.map fr) (fr v))) n2 b3
  have s4 := put_old (g' := .ins O.cB (fs1 "value" (ps.map fr) (qs.map fr) (fr v))) n2 s3
  have z4 : put h3 a2 (.ins O.cB (fs1 "value" (ps.map fr) (qs.map fr) (fr v))) a2 = some (.ins O.cB (fs1 "value" (ps.map fr) (qs.map fr) (fr v))) := put_same
  generalize put h3 a2 (.ins O.cB (fs1 "value" (ps.map fr) (qs.map fr) (fr v))) = h4 at g4 m4 b4 s4 z4 ⊢
  refine ⟨_, rfl, _, rfl, _, rfl, fun a3 n3 => ?_⟩
  refine ⟨a3, _, _, _, ps.map fr, qs.map fr, rfl, put_same, .inl (vw_own (put_old n3 g4)), .inl (vw_own (put_old n3 m4)), rfl, by show 3 ≤ sizeLine; decide, ?_⟩
  rw [put_put]
  have t5 : T O b a1 a2 a3 (ps.map fr) (qs.map fr) (fr v) u (put h4 a3 (.ins O.cH (fs1 "player" (ps.map fr) (qs.map fr) (.int u)))) := ⟨put_old n3 b4, put_old n3 s4, put_old n3 z4, put_same⟩
  have g5 := put_old (g' := .ins O.cH (fs1 "player" (ps.map fr) (qs.map fr) (.int u))) n3 g4
  have m5 := put_old (g' := .ins O.cH (fs1 "player" (ps.map fr) (qs.map fr) (.int u))) n3 m4
  generalize put h4 a3 (.ins O.cH (fs1 "player" (ps.map fr) (qs.map fr) (.int u))) = h5 at t5 g5 m5 ⊢
  -- clear, append
  refine ⟨_, rfl, g, _, rfl, g5, _, [], .non, g5, ⟨rfl, rfl, rfl⟩, ?_⟩
  have t6 := t5.lst (g := .lst []) g5
  have m6 : put h5 g (.lst []) m = some (.lst (qs.map fr)) := (put_ne (Ne.symm hne)).trans m5
  refine ⟨_, rfl, m, _, rfl, m6, two_le, _, _, .non, m6, ⟨_, rfl, by rw [len_map]; exact small (by omega), rfl, rfl⟩, ?_⟩
  have t7 := t6.lst (g := .lst (qs.map fr ++ [.tup [.int 1, .int 1]])) m6
  generalize put (put h5 g (.lst [])) m (.lst (qs.map fr ++ [.tup [.int 1, .int 1]])) = h7 at t7 ⊢
  -- the loops
  refine ⟨2, rfl, ⟨by decide, by decide⟩, ?_⟩
  refine again hX2 (okfr 0 ps) (okfr 0 qs) (okD_fr 0 v) (fun h8 o10 o11 o12 t8 => ?_) _ h7 _ _ _ t7
  refine ⟨_, rfl, ?_⟩
  have oX : okD 2 (.lst (ps.map fr)) := okD_lst (by rw [len_map]; exact small (by omega)) (okfr 0 ps)
  have oY : okD 2 (.lst (qs.map fr)) := okD_lst (by rw [len_map]; exact small (by omega)) (okfr 0 qs)
  refine sheet_body t8.s1 (.inl rfl) (.inl ⟨rfl, rfl, rfl⟩) (lkE0 _ _) (lkA0 _ _) oX oY ?_
  refine sheet_body t8.s2 (.inr (.inl rfl)) (.inr (.inl ⟨rfl, rfl, rfl⟩)) (lkE1 _ _ _ _) (lkA1 _ _ _ _) oX oY ?_
  refine sheet_body t8.s3 (.inr (.inr rfl)) (.inr (.inr (.inl ⟨rfl, rfl, rfl⟩))) (lkE1 _ _ _ _) (lkA1 _ _ _ _) oX oY ?_
  exact rest_body t8 hX (okD_fr 1 v) fun h' o14 hb' => k h' _ _ _ _ _ _ _ _ _ _ _ _ _ hb'
theorem loop {O : Oc} {b : Addr} {N : GEnds} {o0 : Option D} (k : ∀ h o2 o3 o4 o5 o6 o7 o8 o9 o10 o11 o12 o13 o14 o15, N.nx [o0, some (.ref b), o2, o3, o4, o5, o6, o7, o8, o9, o10, o11, o12, o13, o14, o15] h) :
    ∀ (ds : List D) (h : GH) (o2 o3 o4 o5 o6 o7 o8 o9 o10 o11 o12 o13 o14 o15 : Option D), h b = some .bag → gLoop (tgName 2) (b_law O) N ds [o0, some (.ref b), o2, o3, o4, o5, o6, o7, o8, o9, o10, o11, o12, o13, o14, o15] h
  | [], h, o2, o3, o4, o5, o6, o7, o8, o9, o10, o11, o12, o13, o14, o15, _ => k h _ _ _ _ _ _ _ _ _ _ _ _ _ _
  | d :: r, h, o2, o3, o4, o5, o6, o7, o8, o9, o10, o11, o12, o13, o14, o15, hb => turn (N := { nx := gLoop (tgName 2) (b_law O) N r, ct := gLoop (tgName 2) (b_law O) N r, bk := N.nx, rt := N.rt }) hb _ _ _ _ _ _ _ _ _ _ _ _ _ _ fun h' o3 o4 o5 o6 o7 o8 o9 o10 o11 o12 o13 o14 o15 hb' => loop k r h' _ _ _ _ _ _ _ _ _ _ _ _ _ _ hb'
theorem pure_law (O : Oc) (ns : List Int) (hl : ns.length ≤ 63) : g_law O { nx := fun _ _ => False, rt := fun d _ => d = .bl true } (startG ["_law_script", "_law_bag_here", "_law_turn", "_law_equal", "_law_above", "_law_value", "_law_player", "_law_given", "_law_more", "_law_some", "_law_again", "_law_found", "_law_numbers", "_law_sheet", "_law_kinds", "_law_k"] [.fro (ns.map .int)]) (fun _ => none) := by
  refine ⟨_, rfl, ns, rfl, hl, fun b hb => ?_⟩
  refine ⟨5, rfl, ⟨by decide, by decide⟩, ?_⟩
  refine loop (b := b) (fun h o2 o3 o4 o5 o6 o7 o8 o9 o10 o11 o12 o13 o14 o15 => ?_) _ _ none none none none none none none none none none none none none none put_same
  exact ⟨[], .inl rfl⟩
end K19

set_option maxHeartbeats 2000000
namespace K19
open PySem PySem.Spec PyProof.Rows L2 Gh
theorem bindsLaw {K : Fg} {x qual p : Str} {st : Stmt} {f : Addr} {fd : FuncData} (F : Fun K x qual st f fd) (h : ∀ (kV doc pm : Value) (an : Option Addr) (cdv ct u : Value), bindArgs (PySem.W.fnOf x qual (defArgs st) (defBody st) (defScope st) .none kV doc pm an cdv ct) ⟨[u], []⟩ = pure [(p, u)]) (s : Shared) (u : Value) : BindsTo s fd ⟨[u], []⟩ [(p, u)] := by
  obtain ⟨oc, od, kV, doc, pm, an, cdv, ct, osl, rfl, lk, hcd⟩ := F.ex
  exact .of_eq (h kV doc pm an cdv ct u)
structure OF (P : Program) (w : World) (K : Fg) (mg : Str → Option Value) (base : Heap) (O : Oc) : Prop where
  fld : ∀ f : Str, f ∈ (["equal", "above", "value", "player"] : List Str) → ∀ C, F3 O C → Cls K C ∧ NoAttr K C f
  mk_Sheet : Mkc P w K mg base 2 "Sheet" O.cS (S_sI O)
  mk_Bound : Mkc P w K mg base 2 "Bound" O.cB (S_bI O)
  mk_Shut : Mkc P w K mg base 2 "Shut" O.cH (S_hI O)
  mt_numbers : ∀ C S, sel O C S → Mtc P w K mg base 2 C "numbers" S
  isi : ∀ C T b, isi O C T b → InsT K C ∧ PySem.W.kitOne K (.ref C) (.ref T) = some b
  n_Sheet : mg "Sheet" = some (.ref O.cS)
  n_Bound : mg "Bound" = some (.ref O.cB)
  n_Shut : mg "Shut" = some (.ref O.cH)
def topS (i : Nat) : Stmt := PySem.Challenge.pw_graincourse_k19_sheets_as_objects.main.body.getD i (.Pass ⟨0, 0, 0, 0⟩)
def memS (i j : Nat) : Stmt := (clsBody (topS i)).getD j (.Pass ⟨0, 0, 0, 0⟩)
structure Bi (mg : Str → Option Value) : Prop where
  list : mg "list" = none
  len : mg "len" = none
  isinstance : mg "isinstance" = none
  tuple : mg "tuple" = none
  all : mg "all" = none
  range : mg "range" = none
  bool : mg "bool" = none
  int : mg "int" = none
  str : mg "str" = none
  abs : mg "abs" = none
  any : mg "any" = none
abbrev st_law_bag : Stmt := topS 6
theorem sc_law_bag : FnScope ["_law_script", "_law_salt", "_law_cell"] ["_law_script"] (defScope st_law_bag) := ⟨rfl, rfl, rfl, by decide +kernel, rfl, by decide +kernel, by decide +kernel⟩
abbrev st_law_pull : Stmt := topS 7
theorem sc_law_pull : FnScope ["_law_bag_here", "_law_many", "_law_cell", "_law_digit", "_law_seed"] ["_law_bag_here", "_law_many"] (defScope st_law_pull) := ⟨rfl, rfl, rfl, by decide +kernel, rfl, by decide +kernel, by decide +kernel⟩
abbrev st_law_of : Stmt := topS 8
theorem sc_law_of : FnScope ["_law_bag_here", "_law_some"] ["_law_bag_here", "_law_some"] (defScope st_law_of) := ⟨rfl, rfl, rfl, by decide +kernel, rfl, by decide +kernel, by decide +kernel⟩
abbrev st_law_same : Stmt := topS 9
theorem sc_law_same : FnScope ["_law_found", "_law_due", "_law_k"] ["_law_found", "_law_due"] (defScope st_law_same) := ⟨rfl, rfl, rfl, by decide +kernel, rfl, by decide +kernel, by decide +kernel⟩
abbrev st_law_gcd : Stmt := topS 10
theorem sc_law_gcd : FnScope ["_law_a", "_law_b"] ["_law_a", "_law_b"] (defScope st_law_gcd) := ⟨rfl, rfl, rfl, by decide +kernel, rfl, by decide +kernel, by decide +kernel⟩
abbrev st_law_low : Stmt := topS 11
theorem sc_law_low : FnScope ["_law_a", "_law_b", "_law_by"] ["_law_a", "_law_b"] (defScope st_law_low) := ⟨rfl, rfl, rfl, by decide +kernel, rfl, by decide +kernel, by decide +kernel⟩
abbrev st_law_ratio : Stmt := topS 12
theorem sc_law_ratio : FnScope ["_law_bag_here", "_law_most", "_law_top"] ["_law_bag_here", "_law_most"] (defScope st_law_ratio) := ⟨rfl, rfl, rfl, by decide +kernel, rfl, by decide +kernel, by decide +kernel⟩
abbrev st_law : Stmt := topS 13
theorem sc_law : FnScope ["_law_script", "_law_bag_here", "_law_turn", "_law_equal", "_law_above", "_law_value", "_law_player", "_law_given", "_law_more", "_law_some", "_law_again", "_law_found", "_law_numbers", "_law_sheet", "_law_kinds", "_law_k"] ["_law_script"] (defScope st_law) := ⟨rfl, rfl, rfl, by decide +kernel, rfl, by decide +kernel, by decide +kernel⟩
section
variable {P : Program} {w : World} {K : PySem.W.Frag} {mg : Str → Option Value} {base : Heap}
theorem d_law_bag {f : Addr} (B : Bi mg) (cdv : Value) (A : Around) (outer : List Env) (s : Shared) (H : Hp) (E : XK) (hr : Room 0 (A.deeper (PyProof.Rows.envOfC "_law_bag" (defScope st_law_bag) s.heap.objs.size f cdv))) :
    PSs (cxOf CX0 P w K mg base ["_law_script", "_law_salt", "_law_cell"] "_law_bag" (defScope st_law_bag) f cdv A outer s H E).nox (defBody st_law_bag) (gS K AN.top g_law_bag) :=
  (b_cons (s_set (i := 1) sc_law_bag.nd e_int)
 (b_cons (s_for PassesOwn.never rfl (i_seq (e_sl (e_var 0) o_none (o_some e_int))) (g_name 2 sc_law_bag.nd)
  (b_one (s_set (i := 1) sc_law_bag.nd (e_mod (e_add (e_add (e_mul (e_var 1) e_int) (e_mod (e_var 2) e_int)) e_int) e_int))))
 (b_one (s_retO (f_lst (a_cons (e_fr (f_list B.list (a_cons (e_sl (e_var 0) o_none (o_some e_int)) a_nil))) (a_cons e_int (a_cons e_int (a_cons (e_var 1) (a_cons e_int a_nil))))))))))
theorem d_law_pull {f : Addr} (B : Bi mg) (cdv : Value) (A : Around) (outer : List Env) (s : Shared) (H : Hp) (E : XK) (hr : Room 0 (A.deeper (PyProof.Rows.envOfC "_law_pull" (defScope st_law_pull) s.heap.objs.size f cdv))) :
    PSs (cxOf CX0 P w K mg base ["_law_bag_here", "_law_many", "_law_cell", "_law_digit", "_law_seed"] "_law_pull" (defScope st_law_pull) f cdv A outer s H E).nox (defBody st_law_pull) (gS K AN.top g_law_pull) :=
  (b_cons (s_if (PW.pt (w_and (t_eq hr (e_ix (e_var 0) e_int) e_int) (w_and1 (t_lt (e_ix (e_var 0) e_int) (e_len B.len (a_cons (e_ix (e_var 0) e_int) a_nil))))))
  (b_cons (s_set (i := 2) sc_law_pull.nd (e_ix (e_ix (e_var 0) e_int) (e_ix (e_var 0) e_int)))
 (b_cons (s_asg (e_add (e_ix (e_var 0) e_int) e_int) (g_sub (e_var 0) e_int))
 (b_one (s_if (t_ge (e_var 2) (e_pow e_int e_int))
  (b_one (s_asg (e_var 2) (g_sub (e_var 0) e_int)))
  (b_one (s_asg (e_mod (e_add (e_add (e_mul (e_ix (e_var 0) e_int) e_int) (e_mul (e_mod (e_var 2) e_int) e_int)) e_int) e_int) (g_sub (e_var 0) e_int)))))))
  b_nil)
 (b_cons (s_if (t_gt (e_ix (e_var 0) e_int) e_int)
  (b_cons (s_set (i := 3) sc_law_pull.nd (e_mod (e_ix (e_var 0) e_int) (e_var 1)))
 (b_cons (s_asg (e_fdiv (e_ix (e_var 0) e_int) (e_var 1)) (g_sub (e_var 0) e_int))
 (b_one (s_ret (e_var 3)))))
  b_nil)
 (b_cons (s_asg (e_add (e_ix (e_var 0) e_int) e_int) (g_sub (e_var 0) e_int))
 (b_cons (s_set (i := 4) sc_law_pull.nd (e_mod (e_add (e_ix (e_var 0) e_int) (e_mul (e_ix (e_var 0) e_int) e_int)) e_int))
 (b_cons (s_asg (e_mod (e_add (e_add (e_mul (e_mod (e_mul (e_var 4) (e_var 4)) e_int) (e_var 4)) (e_mul e_int (e_var 4))) e_int) e_int) (g_sub (e_var 0) e_int))
 (b_one (s_ret (e_mod (e_add (e_fdiv (e_ix (e_var 0) e_int) e_int) (e_mul (e_mod (e_ix (e_var 0) e_int) e_int) e_int)) (e_var 1)))))))))
theorem d_law_of {f : Addr} (c_law_pull : Fc P w K mg base 1 "_law_pull" S_law_pull) (B : Bi mg) (cdv : Value) (A : Around) (outer : List Env) (s : Shared) (H : Hp) (E : XK) (hr : Room 1 (A.deeper (PyProof.Rows.envOfC "_law_of" (defScope st_law_of) s.heap.objs.size f cdv))) :
    PSs (cxOf CX0 P w K mg base ["_law_bag_here", "_law_some"] "_law_of" (defScope st_law_of) f cdv A outer s H E).nox (defBody st_law_of) (gS K AN.top g_law_of) :=
  (b_one (s_ret (e_ix (e_var 1) (e_call c_law_pull hr (by omega) (a_cons (e_var 0) (a_cons (e_len B.len (a_cons (e_var 1) a_nil)) a_nil))))))
theorem d_law_same (n : Nat) {f : Addr} (c_law_same : Fc P w K mg base n "_law_same" ((S_prev S_sameG n))) (B : Bi mg) (cdv : Value) (A : Around) (outer : List Env) (s : Shared) (H : Hp) (E : XK) (hr : Room n (A.deeper (PyProof.Rows.envOfC "_law_same" (defScope st_law_same) s.heap.objs.size f cdv))) :
    PSs (cxOf CX0 P w K mg base ["_law_found", "_law_due", "_law_k"] "_law_same" (defScope st_law_same) f cdv A outer s H E).nox (defBody st_law_same) (gS K AN.top (g_law_same (S_prev S_sameG n))) :=
  (b_cons (s_if (PW.pt (w_or (t_isN (e_var 1)) (w_or1 (t_isN (e_var 0)))))
  (b_one (s_ret (e_and (e_isN (e_var 0)) (e_one (e_isN (e_var 1))))))
  b_nil)
 (b_cons (s_if (t_val (e_isi2 (n := "list") (m := "tuple") B.isinstance B.list B.tuple (by decide +kernel) (by decide +kernel) (e_var 1)))
  (b_cons (s_if (PW.pt (w_or (t_ne hr (e_isi B.isinstance (a_cons (e_var 0) (a_cons (e_ty (n := "list") B.list (by decide +kernel)) a_nil))) (e_isi B.isinstance (a_cons (e_var 1) (a_cons (e_ty (n := "list") B.list (by decide +kernel)) a_nil)))) (w_or1 (t_ne hr (e_isi B.isinstance (a_cons (e_var 0) (a_cons (e_ty (n := "tuple") B.tuple (by decide +kernel)) a_nil))) (e_isi B.isinstance (a_cons (e_var 1) (a_cons (e_ty (n := "tuple") B.tuple (by decide +kernel)) a_nil)))))))
  (b_one (s_ret e_bl))
  b_nil)
 (b_one (s_ret (e_and (e_eq hr (e_len B.len (a_cons (e_var 0) a_nil)) (e_len B.len (a_cons (e_var 1) a_nil))) (e_one (e_all rfl B.all (a_cons (e_fr (f_lc rfl sc_law_same.nd (i_range1 B.range (a_cons (e_len B.len (a_cons (e_var 1) a_nil)) a_nil)) (blkOk_by (N := ["_law_found", "_law_due", "_law_k"]) (sc := defScope st_law_same) (by decide +kernel)) (fun _ _ _ _ _ => pg_name (i := 2) sc_law_same.nd rfl (Or.inl rfl)) (fun _ _ _ _ _ => (e_call c_law_same hr (by omega) (a_cons (e_ix (e_var 0) (e_var 2)) (a_cons (e_ix (e_var 1) (e_var 2)) a_nil)))))) a_nil)))))))
  b_nil)
 (b_cons (s_if (PW.pt (w_or (t_ne hr (e_isi B.isinstance (a_cons (e_var 1) (a_cons (e_ty (n := "bool") B.bool (by decide +kernel)) a_nil))) (e_isi B.isinstance (a_cons (e_var 0) (a_cons (e_ty (n := "bool") B.bool (by decide +kernel)) a_nil)))) (w_or1 (t_ne hr (e_isi B.isinstance (a_cons (e_var 1) (a_cons (e_ty (n := "int") B.int (by decide +kernel)) a_nil))) (e_isi B.isinstance (a_cons (e_var 0) (a_cons (e_ty (n := "int") B.int (by decide +kernel)) a_nil)))))))
  (b_one (s_ret e_bl))
  b_nil)
 (b_one (s_ret (e_and (e_eq hr (e_isi B.isinstance (a_cons (e_var 1) (a_cons (e_ty (n := "str") B.str (by decide +kernel)) a_nil))) (e_isi B.isinstance (a_cons (e_var 0) (a_cons (e_ty (n := "str") B.str (by decide +kernel)) a_nil)))) (e_one (e_eq hr (e_var 0) (e_var 1)))))))))
theorem d_law_gcd {f : Addr} (B : Bi mg) (cdv : Value) (A : Around) (outer : List Env) (s : Shared) (H : Hp) (E : XK) (hr : Room 0 (A.deeper (PyProof.Rows.envOfC "_law_gcd" (defScope st_law_gcd) s.heap.objs.size f cdv))) :
    PSs (cxOf CX0 P w K mg base ["_law_a", "_law_b"] "_law_gcd" (defScope st_law_gcd) f cdv A outer s H E).nox (defBody st_law_gcd) (gS K AN.top g_law_gcd) :=
  (b_cons (s_while PassesOwn.never (t_ne hr (e_var 1) e_int)
  (b_one (s_par (i := 0) (j := 1) rfl sc_law_gcd.nd rfl rfl (by decide) rfl rfl (a_cons (e_var 1) (a_cons (e_mod (e_var 0) (e_var 1)) a_nil)) (by rfl))))
 (b_one (s_ret (e_abs B.abs (a_cons (e_var 0) a_nil)))))
theorem d_law_low {f : Addr} (c_law_gcd : Fc P w K mg base 1 "_law_gcd" S_law_gcd) (cdv : Value) (A : Around) (outer : List Env) (s : Shared) (H : Hp) (E : XK) (hr : Room 1 (A.deeper (PyProof.Rows.envOfC "_law_low" (defScope st_law_low) s.heap.objs.size f cdv))) :
    PSs (cxOf CX0 P w K mg base ["_law_a", "_law_b", "_law_by"] "_law_low" (defScope st_law_low) f cdv A outer s H E).nox (defBody st_law_low) (gS K AN.top g_law_low) :=
  (b_cons (s_set (i := 2) sc_law_low.nd (e_call c_law_gcd hr (by omega) (a_cons (e_var 0) (a_cons (e_var 1) a_nil))))
 (b_one (s_ret (e_tup (a_cons (e_fdiv (e_var 0) (e_var 2)) (a_cons (e_fdiv (e_var 1) (e_var 2)) a_nil))))))
theorem d_law_ratio {f : Addr} (c_law_of : Fc P w K mg base 2 "_law_of" S_law_of) (c_law_low : Fc P w K mg base 2 "_law_low" S_law_low) (c_law_pull : Fc P w K mg base 1 "_law_pull" S_law_pull) (cdv : Value) (A : Around) (outer : List Env) (s : Shared) (H : Hp) (E : XK) (hr : Room 2 (A.deeper (PyProof.Rows.envOfC "_law_ratio" (defScope st_law_ratio) s.heap.objs.size f cdv))) :
    PSs (cxOf CX0 P w K mg base ["_law_bag_here", "_law_most", "_law_top"] "_law_ratio" (defScope st_law_ratio) f cdv A outer s H E).nox (defBody st_law_ratio) (gS K AN.top g_law_ratio) :=
  (b_cons (s_set (i := 2) sc_law_ratio.nd (e_call c_law_of hr (by omega) (a_cons (e_var 0) (a_cons (e_fr (f_lst (a_cons e_int (a_cons e_int (a_cons (e_var 1) a_nil))))) a_nil))))
 (b_one (s_ret (e_call c_law_low hr (by omega) (a_cons (e_sub (e_call c_law_pull hr (by omega) (a_cons (e_var 0) (a_cons (e_add (e_mul e_int (e_var 2)) e_int) a_nil))) (e_var 2)) (a_cons (e_add e_int (e_call c_law_pull hr (by omega) (a_cons (e_var 0) (a_cons (e_var 2) a_nil)))) a_nil))))))
theorem d_law {O : Oc} (o : OF P w K mg base O) {f : Addr} (c_law_bag : Fc P w K mg base 1 "_law_bag" S_law_bag) (c_law_pull : Fc P w K mg base 1 "_law_pull" S_law_pull) (c_law_ratio : Fc P w K mg base 3 "_law_ratio" S_law_ratio) (c_law_same : Fc P w K mg base (3 + 1) "_law_same" (S_sameG 3)) (B : Bi mg) (cdv : Value) (A : Around) (outer : List Env) (s : Shared) (H : Hp) (E : XK) (hr : Room 4 (A.deeper (PyProof.Rows.envOfC "law" (defScope st_law) s.heap.objs.size f cdv))) :
    PSs (cxOf CX0 P w K mg base ["_law_script", "_law_bag_here", "_law_turn", "_law_equal", "_law_above", "_law_value", "_law_player", "_law_given", "_law_more", "_law_some", "_law_again", "_law_found", "_law_numbers", "_law_sheet", "_law_kinds", "_law_k"] "law" (defScope st_law) f cdv A outer s H E).nox (defBody st_law) (gS K AN.top (g_law O)) :=
  (b_cons (s_set (i := 1) sc_law.nd (e_call c_law_bag hr (by omega) (a_cons (e_var 0) a_nil)))
 (b_cons (s_for PassesOwn.never rfl (i_range1 B.range (a_cons e_int a_nil)) (g_name 2 sc_law.nd)
  (b_cons (s_lcF (j := 3) rfl sc_law.nd rfl rfl (sw_true rfl rfl rfl (by decide +kernel)) (i_range1 B.range (a_cons (e_call c_law_pull hr (by omega) (a_cons (e_var 1) (a_cons e_int a_nil))) a_nil)) (blkOk_by (N := ["_law_script", "_law_bag_here", "_law_turn", "_law_equal", "_law_above", "_law_value", "_law_player", "_law_given", "_law_more", "_law_some", "_law_again", "_law_found", "_law_numbers", "_law_sheet", "_law_kinds", "_law_k"]) (sc := defScope st_law) (by decide +kernel)) (fun _ _ _ _ _ => pg_name (i := 15) sc_law.nd rfl (Or.inl rfl)) (fun _ _ _ _ _ => (e_call c_law_ratio hr (by omega) (a_cons (e_var 1) (a_cons e_int a_nil)))))
 (b_cons (s_lcF (j := 4) rfl sc_law.nd rfl rfl (sw_true rfl rfl rfl (by decide +kernel)) (i_range1 B.range (a_cons (e_call c_law_pull hr (by omega) (a_cons (e_var 1) (a_cons e_int a_nil))) a_nil)) (blkOk_by (N := ["_law_script", "_law_bag_here", "_law_turn", "_law_equal", "_law_above", "_law_value", "_law_player", "_law_given", "_law_more", "_law_some", "_law_again", "_law_found", "_law_numbers", "_law_sheet", "_law_kinds", "_law_k"]) (sc := defScope st_law) (by decide +kernel)) (fun _ _ _ _ _ => pg_name (i := 15) sc_law.nd rfl (Or.inl rfl)) (fun _ _ _ _ _ => (e_call c_law_ratio hr (by omega) (a_cons (e_var 1) (a_cons e_int a_nil)))))
 (b_cons (s_par (i := 5) (j := 6) rfl sc_law.nd rfl rfl (by decide) rfl rfl (a_cons (e_call c_law_ratio hr (by omega) (a_cons (e_var 1) (a_cons e_int a_nil))) (a_cons (e_add e_int (e_call c_law_pull hr (by omega) (a_cons (e_var 1) (a_cons e_int a_nil)))) a_nil)) (by rfl))
 (b_cons (s_par (i := 7) (j := 8) rfl sc_law.nd rfl rfl (by decide) rfl rfl (a_cons (e_ow (f_list B.list (a_cons (e_var 3) a_nil))) (a_cons (e_ow (f_list B.list (a_cons (e_var 4) a_nil))) a_nil)) (by rfl))
 (b_cons (s_set (i := 9) sc_law.nd (e_fr (f_lst (a_cons (e_make o.mk_Sheet hr (by omega) (a_cons (e_var 7) (a_cons (e_var 8) a_nil))) (a_cons (e_make o.mk_Bound hr (by omega) (a_cons (e_var 7) (a_cons (e_var 8) (a_cons (e_var 5) a_nil)))) (a_cons (e_make o.mk_Shut hr (by omega) (a_cons (e_var 7) (a_cons (e_var 8) (a_cons (e_var 6) a_nil)))) a_nil))))))
 (b_cons (s_expr (e_clear (e_var 7)))
 (b_cons (s_expr (e_append (e_var 8) (a_cons (e_tup (a_cons e_int (a_cons e_int a_nil))) a_nil)))
 (b_cons (s_for PassesOwn.never rfl (i_range1 B.range (a_cons e_int a_nil)) (g_name 10 sc_law.nd)
  (b_cons (s_lcF (j := 11) rfl sc_law.nd rfl rfl (sw_true rfl rfl rfl (by decide +kernel)) (i_seq (e_var 9)) (blkOk_by (N := ["_law_script", "_law_bag_here", "_law_turn", "_law_equal", "_law_above", "_law_value", "_law_player", "_law_given", "_law_more", "_law_some", "_law_again", "_law_found", "_law_numbers", "_law_sheet", "_law_kinds", "_law_k"]) (sc := defScope st_law) (by decide +kernel)) (fun _ _ _ _ _ => pg_name (i := 13) sc_law.nd rfl (Or.inl rfl)) (fun _ _ _ _ _ => (e_meth0 o.mt_numbers hr (by omega) (e_var 13))))
 (b_cons (s_if (t_not (t_val (e_call c_law_same hr (by omega) (a_cons (e_var 11) (a_cons (e_fr (f_lst (a_cons (e_add (e_var 3) (e_var 4)) (a_cons (e_add (e_add (e_var 3) (e_var 4)) (e_fr (f_lst (a_cons (e_var 5) a_nil)))) (a_cons (e_add (e_add (e_var 3) (e_var 4)) (e_fr (f_lst (a_cons (e_var 6) a_nil)))) a_nil))))) a_nil)))))
  (b_one (s_retX e_bl))
  b_nil)
 (b_one (s_for PassesOwn.never rfl (i_seq (e_var 11)) (g_name 12 sc_law.nd)
  (b_one (s_expr (e_clear (e_var 12)))))))))
 (b_cons (s_for PassesOwn.never rfl (i_seq (e_var 9)) (g_name 13 sc_law.nd)
  (b_one (s_if (PW.pt (w_or (t_not (t_val (e_call c_law_same hr (by omega) (a_cons (e_fr (f_lst (a_cons (e_fld (o.fld "equal" (by decide)) (e_var 13)) (a_cons (e_fld (o.fld "above" (by decide)) (e_var 13)) a_nil)))) (a_cons (e_fr (f_lst (a_cons (e_var 3) (a_cons (e_var 4) a_nil)))) a_nil))))) (w_or1 (t_not (t_val (e_isiO o.isi B.isinstance (a_cons (e_var 13) (a_cons (e_cls o.n_Sheet) a_nil))))))))
  (b_one (s_retX e_bl))
  b_nil)))
 (b_cons (s_if (t_not (t_val (e_call c_law_same hr (by omega) (a_cons (e_fr (f_lst (a_cons (e_fld (o.fld "value" (by decide)) (e_ix (e_var 9) e_int)) (a_cons (e_fld (o.fld "player" (by decide)) (e_ix (e_var 9) e_int)) a_nil)))) (a_cons (e_fr (f_lst (a_cons (e_var 5) (a_cons (e_var 6) a_nil)))) a_nil)))))
  (b_one (s_retX e_bl))
  b_nil)
 (b_cons (s_set (i := 14) sc_law.nd (e_fr (f_lst (a_cons (e_isiO o.isi B.isinstance (a_cons (e_ix (e_var 9) e_int) (a_cons (e_cls o.n_Bound) a_nil))) (a_cons (e_isiO o.isi B.isinstance (a_cons (e_ix (e_var 9) e_int) (a_cons (e_cls o.n_Shut) a_nil))) (a_cons (e_isiO o.isi B.isinstance (a_cons (e_ix (e_var 9) e_int) (a_cons (e_cls o.n_Shut) a_nil))) a_nil))))))
 (b_cons (s_if (PW.pt (w_or (t_val (e_any rfl B.any (a_cons (e_var 14) a_nil))) (w_or (t_val (e_isiO o.isi B.isinstance (a_cons (e_ix (e_var 9) e_int) (a_cons (e_cls o.n_Bound) a_nil)))) (w_or (t_not (t_val (e_isiO o.isi B.isinstance (a_cons (e_ix (e_var 9) e_int) (a_cons (e_cls o.n_Bound) a_nil))))) (w_or1 (t_not (t_val (e_isiO o.isi B.isinstance (a_cons (e_ix (e_var 9) e_int) (a_cons (e_cls o.n_Shut) a_nil))))))))))
  (b_one (s_retX e_bl))
  b_nil)
 (b_one (s_if (t_ne hr (e_meth0 o.mt_numbers hr (by omega) (e_make o.mk_Sheet hr (by omega) (a_cons (e_tuple B.tuple (a_cons (e_var 3) a_nil)) (a_cons (e_tuple B.tuple (a_cons (e_var 4) a_nil)) a_nil)))) (e_add (e_var 3) (e_var 4)))
  (b_one (s_retX e_bl))
  b_nil)))))))))))))))
 (b_one (s_retX e_bl))))
end
abbrev m_Sheet_init : Stmt := memS 2 0
abbrev m_Sheet_numbers : Stmt := memS 2 1
abbrev m_Bound_init : Stmt := memS 3 0
abbrev m_Bound_numbers : Stmt := memS 3 1
abbrev m_Shut_init : Stmt := memS 4 0
abbrev m_Shut_numbers : Stmt := memS 4 1
theorem scm_Sheet_init : FnScope ["self", "equal", "above"] ["self", "equal", "above"] (defScope m_Sheet_init) := ⟨rfl, rfl, rfl, by decide +kernel, rfl, by decide +kernel, by decide +kernel⟩
theorem scm_Sheet_numbers : FnScope ["self"] ["self"] (defScope m_Sheet_numbers) := ⟨rfl, rfl, rfl, by decide +kernel, rfl, by decide +kernel, by decide +kernel⟩
theorem scm_Bound_init : NdefX.NScope ["self", "equal", "above", "value", "__class__"] ["self", "equal", "above", "value"] ["__class__"] (defScope m_Bound_init) := NdefX.nscope_by (by decide +kernel)
theorem scm_Bound_numbers : NdefX.NScope ["self", "__class__"] ["self"] ["__class__"] (defScope m_Bound_numbers) := NdefX.nscope_by (by decide +kernel)
theorem scm_Shut_init : NdefX.NScope ["self", "equal", "above", "player", "__class__"] ["self", "equal", "above", "player"] ["__class__"] (defScope m_Shut_init) := NdefX.nscope_by (by decide +kernel)
theorem scm_Shut_numbers : NdefX.NScope ["self", "__class__"] ["self"] ["__class__"] (defScope m_Shut_numbers) := NdefX.nscope_by (by decide +kernel)
section
variable {P : Program} {w : World} {K : PySem.W.Frag} {mg : Str → Option Value} {base : Heap} {O : Oc}
theorem dm_Sheet_init {f : Addr} (fl : ∀ f : Str, f ∈ (["equal", "above", "value", "player"] : List Str) → ∀ C, F3 O C → Cls K C ∧ NoAttr K C f) (hl : mg "list" = none) (cdv : Value) (A : Around) (outer : List Env) (s : Shared) (H : Hp) (E : XK) :
    PSs (cxOf CX0 P w K mg base ["self", "equal", "above"] "Sheet.__init__" (defScope m_Sheet_init) f cdv A outer s H E).nox (defBody m_Sheet_init) (gS K AN.top (g_sI O)) :=
  b_cons (s_fld (fl "equal" (by decide)) (e_var 0) (e_fr (f_list hl (a_cons (e_var 1) a_nil)))) (b_one (s_fld (fl "above" (by decide)) (e_var 0) (e_fr (f_list hl (a_cons (e_var 2) a_nil)))))
theorem dm_Sheet_numbers {f : Addr} (fl : ∀ f : Str, f ∈ (["equal", "above", "value", "player"] : List Str) → ∀ C, F3 O C → Cls K C ∧ NoAttr K C f) (cdv : Value) (A : Around) (outer : List Env) (s : Shared) (H : Hp) (E : XK) :
    PSs (cxOf CX0 P w K mg base ["self"] "Sheet.numbers" (defScope m_Sheet_numbers) f cdv A outer s H E).nox (defBody m_Sheet_numbers) (gS K AN.top (g_sN O)) :=
  b_one (s_retO (f_add (e_fld (fl "equal" (by decide)) (e_var 0)) (e_fld (fl "above" (by decide)) (e_var 0))))
theorem dm_Bound_init {f g cc c : Addr} {fd : FuncData} (fl : ∀ f : Str, f ∈ (["equal", "above", "value", "player"] : List Str) → ∀ C, F3 O C → Cls K C ∧ NoAttr K C f) (SO : SupOk P K mg ⟨"__init__", "Bound.__init__", defArgs m_Bound_init, defBody m_Bound_init, defScope m_Bound_init, [(("__class__" : Str), cc)], c⟩ f O.cB fd "self")
    (M : SupM K (fun C => C = O.cB) O.cB "__init__" g) (Fn : FnR P w K mg base CX0 1 g (GSP K (S_sI O))) (A : Around) (outer : List Env) (s : Shared) (H : Hp) (E : XK) (hr : Room 1 (A.deeper (NdefX.envF ⟨"__init__", "Bound.__init__", defArgs m_Bound_init, defBody m_Bound_init, defScope m_Bound_init, [(("__class__" : Str), cc)], c⟩ f s.heap.objs.size))) :
    PBA (NdefX.ncx CX0 P w K mg base ["self", "equal", "above", "value", "__class__"] ⟨"__init__", "Bound.__init__", defArgs m_Bound_init, defBody m_Bound_init, defScope m_Bound_init, [(("__class__" : Str), cc)], c⟩ f A outer s H E).nox (defBody m_Bound_init) (defBody m_Bound_init) (gS K AN.top (g_xI O O.cB "value")) :=
  x_expr (x_super (i := 0) SO M Fn hr (Nat.le_refl _) (a_cons (e_var 1) (a_cons (e_var 2) a_nil))) (b_one (s_fld (fl "value" (by decide)) (e_var 0) (e_var 3)))
theorem dm_Bound_numbers {f g cc c : Addr} {fd : FuncData} (fl : ∀ f : Str, f ∈ (["equal", "above", "value", "player"] : List Str) → ∀ C, F3 O C → Cls K C ∧ NoAttr K C f) (SO : SupOk P K mg ⟨"numbers", "Bound.numbers", defArgs m_Bound_numbers, defBody m_Bound_numbers, defScope m_Bound_numbers, [(("__class__" : Str), cc)], c⟩ f O.cB fd "self")
    (M : SupM K (fun C => C = O.cB) O.cB "numbers" g) (Fn : FnR P w K mg base CX0 1 g (GSP K (S_sN O))) (A : Around) (outer : List Env) (s : Shared) (H : Hp) (E : XK) (hr : Room 1 (A.deeper (NdefX.envF ⟨"numbers", "Bound.numbers", defArgs m_Bound_numbers, defBody m_Bound_numbers, defScope m_Bound_numbers, [(("__class__" : Str), cc)], c⟩ f s.heap.objs.size))) :
    PBA (NdefX.ncx CX0 P w K mg base ["self", "__class__"] ⟨"numbers", "Bound.numbers", defArgs m_Bound_numbers, defBody m_Bound_numbers, defScope m_Bound_numbers, [(("__class__" : Str), cc)], c⟩ f A outer s H E).nox (defBody m_Bound_numbers) (defBody m_Bound_numbers) (gS K AN.top (g_xN O O.cB "value")) :=
  x_retO (x_addO (x_let (x_super0 (i := 0) SO M Fn hr (Nat.le_refl _))) (e_fr (f_lst (a_cons (e_fld (fl "value" (by decide)) (e_var 0)) a_nil))))
theorem dm_Shut_init {f g cc c : Addr} {fd : FuncData} (fl : ∀ f : Str, f ∈ (["equal", "above", "value", "player"] : List Str) → ∀ C, F3 O C → Cls K C ∧ NoAttr K C f) (SO : SupOk P K mg ⟨"__init__", "Shut.__init__", defArgs m_Shut_init, defBody m_Shut_init, defScope m_Shut_init, [(("__class__" : Str), cc)], c⟩ f O.cH fd "self")
    (M : SupM K (fun C => C = O.cH) O.cH "__init__" g) (Fn : FnR P w K mg base CX0 1 g (GSP K (S_sI O))) (A : Around) (outer : List Env) (s : Shared) (H : Hp) (E : XK) (hr : Room 1 (A.deeper (NdefX.envF ⟨"__init__", "Shut.__init__", defArgs m_Shut_init, defBody m_Shut_init, defScope m_Shut_init, [(("__class__" : Str), cc)], c⟩ f s.heap.objs.size))) :
    PBA (NdefX.ncx CX0 P w K mg base ["self", "equal", "above", "player", "__class__"] ⟨"__init__", "Shut.__init__", defArgs m_Shut_init, defBody m_Shut_init, defScope m_Shut_init, [(("__class__" : Str), cc)], c⟩ f A outer s H E).nox (defBody m_Shut_init) (defBody m_Shut_init) (gS K AN.top (g_xI O O.cH "player")) :=
  x_expr (x_super (i := 0) SO M Fn hr (Nat.le_refl _) (a_cons (e_var 1) (a_cons (e_var 2) a_nil))) (b_one (s_fld (fl "player" (by decide)) (e_var 0) (e_var 3)))
theorem dm_Shut_numbers {f g cc c : Addr} {fd : FuncData} (fl : ∀ f : Str, f ∈ (["equal", "above", "value", "player"] : List Str) → ∀ C, F3 O C → Cls K C ∧ NoAttr K C f) (SO : SupOk P K mg ⟨"numbers", "Shut.numbers", defArgs m_Shut_numbers, defBody m_Shut_numbers, defScope m_Shut_numbers, [(("__class__" : Str), cc)], c⟩ f O.cH fd "self")
    (M : SupM K (fun C => C = O.cH) O.cH "numbers" g) (Fn : FnR P w K mg base CX0 1 g (GSP K (S_sN O))) (A : Around) (outer : List Env) (s : Shared) (H : Hp) (E : XK) (hr : Room 1 (A.deeper (NdefX.envF ⟨"numbers", "Shut.numbers", defArgs m_Shut_numbers, defBody m_Shut_numbers, defScope m_Shut_numbers, [(("__class__" : Str), cc)], c⟩ f s.heap.objs.size))) :
    PBA (NdefX.ncx CX0 P w K mg base ["self", "__class__"] ⟨"numbers", "Shut.numbers", defArgs m_Shut_numbers, defBody m_Shut_numbers, defScope m_Shut_numbers, [(("__class__" : Str), cc)], c⟩ f A outer s H E).nox (defBody m_Shut_numbers) (defBody m_Shut_numbers) (gS K AN.top (g_xN O O.cH "player")) :=
  x_retO (x_addO (x_let (x_super0 (i := 0) SO M Fn hr (Nat.le_refl _))) (e_fr (f_lst (a_cons (e_fld (fl "player" (by decide)) (e_var 0)) a_nil))))
end
def instB (K : Fg) (x : Str) : Bool := He.eqO (PySem.W.findIn K (.ref (He.ga K x)) "__class__") (some (some (.builtin "object.__class__"))) && (He.eqO (PySem.W.specialIn K (.builtin "object.__class__") "__get__") (some (some (.builtin "getset_descriptor.__get__"))) && (decide (PySem.W.takesIn K (.builtin "object.__class__") = some true) && decide (PySem.W.mroIn K (He.ga K x) (.type "object") = some true)))
theorem inst_ok {K : Fg} {x : Str} (c : instB K x = true) (cl : Cls K (He.ga K x)) : InsT K (He.ga K x) := by
  obtain ⟨c1, c⟩ := He.ba c
  obtain ⟨c2, c⟩ := He.ba c
  obtain ⟨c3, c4⟩ := He.ba c
  exact ⟨cl, He.eqO_ok c1, He.eqO_ok c2, of_decide_eq_true c3, of_decide_eq_true c4⟩
def supmB (K : Fg) (x y m : Str) : Bool := decide (PySem.W.mroIn K (He.ga K x) (.ref (He.ga K x)) = some true) && (He.eqO (PySem.W.ks_superIn K (He.ga K x) (He.ga K x) m) (some (some (.ref (He.ma K (He.ga K y) m)))) && (decide (PySem.W.typeIn K (.ref (He.ma K (He.ga K y) m)) = some (.type "function")) && PySem.W.fnIn K (He.ma K (He.ga K y) m)))
theorem supm_ok {K : Fg} {x y m : Str} (c : supmB K x y m = true) : SupM K (fun C => C = He.ga K x) (He.ga K x) m (He.ma K (He.ga K y) m) := by
  obtain ⟨c1, c⟩ := He.ba c
  obtain ⟨c2, c⟩ := He.ba c
  obtain ⟨c3, c4⟩ := He.ba c
  exact ⟨fun C e => by subst e; exact ⟨of_decide_eq_true c1, He.eqO_ok c2⟩, of_decide_eq_true c3, c4⟩
def fas0 : List He.Fa := [.glo "_law_bag",
  .glo "_law_pull",
  .glo "_law_of",
  .glo "_law_same",
  .glo "_law_gcd",
  .glo "_law_low",
  .glo "_law_ratio",
  .glo "law",
  .free "list",
  .free "len",
  .free "isinstance",
  .free "tuple",
  .free "all",
  .free "range",
  .free "bool",
  .free "int",
  .free "str",
  .free "abs",
  .free "any"]
def fas : List He.Fa := fas0
def fex : List ((PySem.W.Frag → Bool)) := []
def fns0 : List He.FnD := [⟨("_law_bag", none), "_law_bag", "_law_bag", defArgs st_law_bag, defBody st_law_bag, defScope st_law_bag⟩,
  ⟨("_law_pull", none), "_law_pull", "_law_pull", defArgs st_law_pull, defBody st_law_pull, defScope st_law_pull⟩,
  ⟨("_law_of", none), "_law_of", "_law_of", defArgs st_law_of, defBody st_law_of, defScope st_law_of⟩,
  ⟨("_law_same", none), "_law_same", "_law_same", defArgs st_law_same, defBody st_law_same, defScope st_law_same⟩,
  ⟨("_law_gcd", none), "_law_gcd", "_law_gcd", defArgs st_law_gcd, defBody st_law_gcd, defScope st_law_gcd⟩,
  ⟨("_law_low", none), "_law_low", "_law_low", defArgs st_law_low, defBody st_law_low, defScope st_law_low⟩,
  ⟨("_law_ratio", none), "_law_ratio", "_law_ratio", defArgs st_law_ratio, defBody st_law_ratio, defScope st_law_ratio⟩,
  ⟨("law", none), "law", "law", defArgs st_law, defBody st_law, defScope st_law⟩]
def fns : List He.FnD := fns0
def fas20 : List He.Fa := [.free "super",
  .glo "Sheet",
  .cls "Sheet",
  .noat "Sheet" "equal",
  .noat "Sheet" "above",
  .noat "Sheet" "value",
  .noat "Sheet" "player",
  .meth "Sheet" "numbers",
  .mkr "Sheet",
  .glo "Bound",
  .cls "Bound",
  .noat "Bound" "equal",
  .noat "Bound" "above",
  .noat "Bound" "value",
  .noat "Bound" "player",
  .meth "Bound" "numbers",
  .mkr "Bound",
  .glo "Shut",
  .cls "Shut",
  .noat "Shut" "equal"]
def fas21 : List He.Fa := [.noat "Shut" "above",
  .noat "Shut" "value",
  .noat "Shut" "player",
  .meth "Shut" "numbers",
  .mkr "Shut"]
def fas2 : List He.Fa := fas20 ++ fas21
def fex20 : List ((PySem.W.Frag → Bool)) := [fun K => instB K "Sheet",
  fun K => PySem.W.isClsIn K (He.ga K "Sheet"),
  fun K => instB K "Bound",
  fun K => PySem.W.isClsIn K (He.ga K "Bound"),
  fun K => instB K "Shut",
  fun K => PySem.W.isClsIn K (He.ga K "Shut"),
  fun K => decide (PySem.W.nsIn K cStatics "thirdparty.any" = some none),
  fun K => decide (PySem.W.kitOne K (.ref (He.ga K "Sheet")) (.ref (He.ga K "Sheet")) = some true),
  fun K => decide (PySem.W.kitOne K (.ref (He.ga K "Bound")) (.ref (He.ga K "Sheet")) = some true),
  fun K => decide (PySem.W.kitOne K (.ref (He.ga K "Shut")) (.ref (He.ga K "Sheet")) = some true),
  fun K => decide (PySem.W.kitOne K (.ref (He.ga K "Sheet")) (.ref (He.ga K "Bound")) = some false),
  fun K => decide (PySem.W.kitOne K (.ref (He.ga K "Sheet")) (.ref (He.ga K "Shut")) = some false),
  fun K => decide (PySem.W.kitOne K (.ref (He.ga K "Bound")) (.ref (He.ga K "Shut")) = some false),
  fun K => decide (PySem.W.kitOne K (.ref (He.ga K "Shut")) (.ref (He.ga K "Bound")) = some false),
  fun K => decide (PySem.W.kitOne K (.ref (He.ga K "Bound")) (.ref (He.ga K "Bound")) = some true),
  fun K => decide (PySem.W.kitOne K (.ref (He.ga K "Shut")) (.ref (He.ga K "Shut")) = some true),
  fun K => supmB K "Bound" "Sheet" "__init__",
  fun K => supmB K "Bound" "Sheet" "numbers",
  fun K => supmB K "Shut" "Sheet" "__init__",
  fun K => supmB K "Shut" "Sheet" "numbers"]
def fex2 : List ((PySem.W.Frag → Bool)) := fex20
def fnsM : List He.FnD := [⟨("Sheet", some "__init__"), "__init__", "Sheet.__init__", defArgs m_Sheet_init, defBody m_Sheet_init, defScope m_Sheet_init⟩,
  ⟨("Sheet", some "numbers"), "numbers", "Sheet.numbers", defArgs m_Sheet_numbers, defBody m_Sheet_numbers, defScope m_Sheet_numbers⟩]
def sns : List (He.FnD × Str) := [(⟨("Bound", some "__init__"), "__init__", "Bound.__init__", defArgs m_Bound_init, defBody m_Bound_init, defScope m_Bound_init⟩, "Bound"),
  (⟨("Bound", some "numbers"), "numbers", "Bound.numbers", defArgs m_Bound_numbers, defBody m_Bound_numbers, defScope m_Bound_numbers⟩, "Bound"),
  (⟨("Shut", some "__init__"), "__init__", "Shut.__init__", defArgs m_Shut_init, defBody m_Shut_init, defScope m_Shut_init⟩, "Shut"),
  (⟨("Shut", some "numbers"), "numbers", "Shut.numbers", defArgs m_Shut_numbers, defBody m_Shut_numbers, defScope m_Shut_numbers⟩, "Shut")]
def plan : Plan2 := ⟨⟨((fas.map fun f K => f.ok K) ++ fex) ++ ((fas2.map fun f K => f.ok K) ++ fex2), fns ++ fnsM, [], []⟩, sns, PySem.Challenge.pw_graincourse_k19_sheets_as_objects.main.file⟩
def loose0 : List Str := ["_wall",
  "Sheet",
  "Bound",
  "Shut",
  "_law_bag",
  "_law_pull",
  "_law_of",
  "_law_same",
  "_law_gcd",
  "_law_low",
  "_law_ratio"]
def loose : List Str := loose0
abbrev R : PySem.W.OpenRow := PySem.W.OpenLaw.row PySem.Challenge.rw_graincourse_k19_sheets_as_objects
def ob (s : PySem.W.SharedT) : AlS := plan.obsG (HandSHeadRun.getT s)
theorem ob_eq (s : PySem.W.SharedT) : ob s = plan.hook.obs s.abs := Plan2.obsG_eq (HandSHeadRun.getT_eq s)
set_option maxHeartbeats 0 in
theorem runF (w : World) : HandSHeadRun.RunEq R (PySem.W.view R.prog [13]) plan.hook ob 20000 loose (w.withFollow "special-get-raises" false) := by
  intro os
  kernel_rfl
set_option maxHeartbeats 0 in
theorem runT (w : World) : HandSHeadRun.RunEq R (PySem.W.view R.prog [13]) plan.hook ob 20000 loose (w.withFollow "special-get-raises" true) := by
  intro os
  kernel_rfl
theorem run (w : World) : HandSHeadRun.RunEq R (PySem.W.view R.prog [13]) plan.hook ob 20000 loose w := PySem.W.byRow2 "special-get-raises" (P := fun w => HandSHeadRun.RunEq R (PySem.W.view R.prog [13]) plan.hook ob 20000 loose w) runF runT w
theorem rec_law_same {P : Program} {w : World} {K : PySem.W.Frag} {mg : Str → Option Value} {base : Heap} {f : Addr} {fd : FuncData} (F : Fun K "_law_same" "_law_same" st_law_same f fd) (hm : mg "_law_same" = some (.ref f)) (b : Binds K fd ["_law_found", "_law_due"] []) (B : Bi mg) : ∀ n : Nat, Fc P w K mg base (n + 1) "_law_same" (S_sameG n)
  | 0 => gfun F hm b sc_law_same (len_sameG 0) (fun cdv A outer s H E hr => d_law_same 0 (fc_none F hm) B cdv A outer s H E hr) (pure_sameG 0)
  | n + 1 => gfun F hm b sc_law_same (len_sameG (n + 1)) (fun cdv A outer s H E hr => d_law_same (n + 1) (rec_law_same F hm b B n) B cdv A outer s H E hr) (pure_sameG (n + 1))
theorem all_mk {l : PySem.W.OpenLaw} {w : World} {K : PySem.W.Frag} {h : Heap} {mg : Str → Option Value} {fa : Addr} (X : K.In h) (G : h.Ns mainGlobals mg) (hfa : mg "law" = some (.ref fa)) (c2 : plan.Says h K) (hfile : ((l.prog.main.file : Str) == PySem.Challenge.pw_graincourse_k19_sheets_as_objects.main.file) = true) (htop : (l.prog.main.scope.names.lookup ("super" : Str)).isSome = false) : ∃ fd : FuncData, (∀ (s : Shared) (v : Value), BindsTo s fd ⟨[v], []⟩ [("_law_script", v)]) ∧ ∀ base : Heap, K.In base → base.Ns mainGlobals mg → FnOk l.prog w K mg base CX0 5 fa fd ["_law_script"] (spLaw K) := by
  have c := c2.says
  have e := hfa.symm.trans (He.glo_ok X G (c.factAt 7 (f := fun K => (He.Fa.glo "law").ok K) rfl))
  cases e
  have B : Bi mg := { list := He.free_ok X G (c.factAt 8 (f := fun K => (He.Fa.free "list").ok K) rfl), len := He.free_ok X G (c.factAt 9 (f := fun K => (He.Fa.free "len").ok K) rfl), isinstance := He.free_ok X G (c.factAt 10 (f := fun K => (He.Fa.free "isinstance").ok K) rfl), tuple := He.free_ok X G (c.factAt 11 (f := fun K => (He.Fa.free "tuple").ok K) rfl), all := He.free_ok X G (c.factAt 12 (f := fun K => (He.Fa.free "all").ok K) rfl), range := He.free_ok X G (c.factAt 13 (f := fun K => (He.Fa.free "range").ok K) rfl), bool := He.free_ok X G (c.factAt 14 (f := fun K => (He.Fa.free "bool").ok K) rfl), int := He.free_ok X G (c.factAt 15 (f := fun K => (He.Fa.free "int").ok K) rfl), str := He.free_ok X G (c.factAt 16 (f := fun K => (He.Fa.free "str").ok K) rfl), abs := He.free_ok X G (c.factAt 17 (f := fun K => (He.Fa.free "abs").ok K) rfl), any := He.free_ok X G (c.factAt 18 (f := fun K => (He.Fa.free "any").ok K) rfl) }
  obtain ⟨fd_law_bag, F_law_bag⟩ := c.fun_ 0 (x := "_law_bag") (q := "_law_bag") (at_ := ("_law_bag", none)) (st := st_law_bag) rfl
  have m_law_bag := He.glo_ok X G (c.factAt 0 (f := fun K => (He.Fa.glo "_law_bag").ok K) rfl)
  have b_law_bag := F_law_bag.binds (ps := ["_law_script"]) fun _ _ _ _ _ _ us hl => match us, hl with | [_], _ => rfl
  obtain ⟨fd_law_pull, F_law_pull⟩ := c.fun_ 1 (x := "_law_pull") (q := "_law_pull") (at_ := ("_law_pull", none)) (st := st_law_pull) rfl
  have m_law_pull := He.glo_ok X G (c.factAt 1 (f := fun K => (He.Fa.glo "_law_pull").ok K) rfl)
  have b_law_pull := F_law_pull.binds (ps := ["_law_bag_here", "_law_many"]) fun _ _ _ _ _ _ us hl => match us, hl with | [_, _], _ => rfl
  obtain ⟨fd_law_of, F_law_of⟩ := c.fun_ 2 (x := "_law_of") (q := "_law_of") (at_ := ("_law_of", none)) (st := st_law_of) rfl
  have m_law_of := He.glo_ok X G (c.factAt 2 (f := fun K => (He.Fa.glo "_law_of").ok K) rfl)
  have b_law_of := F_law_of.binds (ps := ["_law_bag_here", "_law_some"]) fun _ _ _ _ _ _ us hl => match us, hl with | [_, _], _ => rfl
  obtain ⟨fd_law_same, F_law_same⟩ := c.fun_ 3 (x := "_law_same") (q := "_law_same") (at_ := ("_law_same", none)) (st := st_law_same) rfl
  have m_law_same := He.glo_ok X G (c.factAt 3 (f := fun K => (He.Fa.glo "_law_same").ok K) rfl)
  have b_law_same := F_law_same.binds (ps := ["_law_found", "_law_due"]) fun _ _ _ _ _ _ us hl => match us, hl with | [_, _], _ => rfl
  obtain ⟨fd_law_gcd, F_law_gcd⟩ := c.fun_ 4 (x := "_law_gcd") (q := "_law_gcd") (at_ := ("_law_gcd", none)) (st := st_law_gcd) rfl
  have m_law_gcd := He.glo_ok X G (c.factAt 4 (f := fun K => (He.Fa.glo "_law_gcd").ok K) rfl)
  have b_law_gcd := F_law_gcd.binds (ps := ["_law_a", "_law_b"]) fun _ _ _ _ _ _ us hl => match us, hl with | [_, _], _ => rfl
  obtain ⟨fd_law_low, F_law_low⟩ := c.fun_ 5 (x := "_law_low") (q := "_law_low") (at_ := ("_law_low", none)) (st := st_law_low) rfl
  have m_law_low := He.glo_ok X G (c.factAt 5 (f := fun K => (He.Fa.glo "_law_low").ok K) rfl)
  have b_law_low := F_law_low.binds (ps := ["_law_a", "_law_b"]) fun _ _ _ _ _ _ us hl => match us, hl with | [_, _], _ => rfl
  obtain ⟨fd_law_ratio, F_law_ratio⟩ := c.fun_ 6 (x := "_law_ratio") (q := "_law_ratio") (at_ := ("_law_ratio", none)) (st := st_law_ratio) rfl
  have m_law_ratio := He.glo_ok X G (c.factAt 6 (f := fun K => (He.Fa.glo "_law_ratio").ok K) rfl)
  have b_law_ratio := F_law_ratio.binds (ps := ["_law_bag_here", "_law_most"]) fun _ _ _ _ _ _ us hl => match us, hl with | [_, _], _ => rfl
  obtain ⟨fd_law, F_law⟩ := c.fun_ 7 (x := "law") (q := "law") (at_ := ("law", none)) (st := st_law) rfl
  refine ⟨fd_law, bindsLaw F_law (fun _ _ _ _ _ _ _ => rfl), fun base _ _ => ?_⟩
  have c_law_bag : Fc l.prog w K mg base 1 "_law_bag" S_law_bag := gfun_bag F_law_bag m_law_bag b_law_bag sc_law_bag (fun cdv A outer s H E hr => d_law_bag B cdv A outer s H E hr)
  have c_law_pull : Fc l.prog w K mg base 1 "_law_pull" S_law_pull := gfun_pull F_law_pull m_law_pull b_law_pull sc_law_pull (fun cdv A outer s H E hr => d_law_pull B cdv A outer s H E hr)
  have c_law_of : Fc l.prog w K mg base 2 "_law_of" S_law_of := gfun F_law_of m_law_of b_law_of sc_law_of len_law_of (fun cdv A outer s H E hr => d_law_of c_law_pull B cdv A outer s H E hr) pure_law_of
  have c_law_same : Fc l.prog w K mg base (3 + 1) "_law_same" (S_sameG 3) := rec_law_same F_law_same m_law_same b_law_same B 3
  have c_law_gcd : Fc l.prog w K mg base 1 "_law_gcd" S_law_gcd := gfun F_law_gcd m_law_gcd b_law_gcd sc_law_gcd len_law_gcd (fun cdv A outer s H E hr => d_law_gcd B cdv A outer s H E hr) pure_law_gcd
  have c_law_low : Fc l.prog w K mg base 2 "_law_low" S_law_low := gfun F_law_low m_law_low b_law_low sc_law_low len_law_low (fun cdv A outer s H E hr => d_law_low c_law_gcd cdv A outer s H E hr) pure_law_low
  have c_law_ratio : Fc l.prog w K mg base 3 "_law_ratio" S_law_ratio := gfun F_law_ratio m_law_ratio b_law_ratio sc_law_ratio len_law_ratio (fun cdv A outer s H E hr => d_law_ratio c_law_of c_law_low c_law_pull cdv A outer s H E hr) pure_law_ratio
  obtain ⟨fdSI, FSI⟩ := c.fun_ 8 (x := "__init__") (q := "Sheet.__init__") (at_ := ("Sheet", some "__init__")) (st := m_Sheet_init) rfl
  obtain ⟨fdSN, FSN⟩ := c.fun_ 9 (x := "numbers") (q := "Sheet.numbers") (at_ := ("Sheet", some "numbers")) (st := m_Sheet_numbers) rfl
  have bSI := FSI.binds (ps := ["self", "equal", "above"]) fun _ _ _ _ _ _ us hl => match us, hl with | [_, _, _], _ => rfl
  have bSN := FSN.binds (ps := ["self"]) fun _ _ _ _ _ _ us hl => match us, hl with | [_], _ => rfl
  have n_Sheet := He.glo_ok X G (c.factAt 20 (f := fun K => (He.Fa.glo "Sheet").ok K) rfl)
  have cl_Sheet := He.cls_ok (c.factAt 21 (f := fun K => (He.Fa.cls "Sheet").ok K) rfl)
  have mt_Sheet := He.meth_ok (c.factAt 26 (f := fun K => (He.Fa.meth "Sheet" "numbers").ok K) rfl)
  have mk_Sheet := He.mkr_ok (c.factAt 27 (f := fun K => (He.Fa.mkr "Sheet").ok K) rfl)
  have it_Sheet := inst_ok (c.factAt 44 (f := fun K => instB K "Sheet") rfl) cl_Sheet
  have n_Bound := He.glo_ok X G (c.factAt 28 (f := fun K => (He.Fa.glo "Bound").ok K) rfl)
  have cl_Bound := He.cls_ok (c.factAt 29 (f := fun K => (He.Fa.cls "Bound").ok K) rfl)
  have mt_Bound := He.meth_ok (c.factAt 34 (f := fun K => (He.Fa.meth "Bound" "numbers").ok K) rfl)
  have mk_Bound := He.mkr_ok (c.factAt 35 (f := fun K => (He.Fa.mkr "Bound").ok K) rfl)
  have it_Bound := inst_ok (c.factAt 46 (f := fun K => instB K "Bound") rfl) cl_Bound
  have n_Shut := He.glo_ok X G (c.factAt 36 (f := fun K => (He.Fa.glo "Shut").ok K) rfl)
  have cl_Shut := He.cls_ok (c.factAt 37 (f := fun K => (He.Fa.cls "Shut").ok K) rfl)
  have mt_Shut := He.meth_ok (c.factAt 42 (f := fun K => (He.Fa.meth "Shut" "numbers").ok K) rfl)
  have mk_Shut := He.mkr_ok (c.factAt 43 (f := fun K => (He.Fa.mkr "Shut").ok K) rfl)
  have it_Shut := inst_ok (c.factAt 48 (f := fun K => instB K "Shut") rfl) cl_Shut
  have fl_equal : ∀ C, F3 (⟨He.ga K "Sheet", He.ga K "Bound", He.ga K "Shut"⟩ : Oc) C → Cls K C ∧ NoAttr K C "equal" := fun C hC => by
    rcases hC with rfl | rfl | rfl
    · exact ⟨cl_Sheet, He.noat_ok (c.factAt 22 (f := fun K => (He.Fa.noat "Sheet" "equal").ok K) rfl)⟩
    · exact ⟨cl_Bound, He.noat_ok (c.factAt 30 (f := fun K => (He.Fa.noat "Bound" "equal").ok K) rfl)⟩
    · exact ⟨cl_Shut, He.noat_ok (c.factAt 38 (f := fun K => (He.Fa.noat "Shut" "equal").ok K) rfl)⟩
  have fl_above : ∀ C, F3 (⟨He.ga K "Sheet", He.ga K "Bound", He.ga K "Shut"⟩ : Oc) C → Cls K C ∧ NoAttr K C "above" := fun C hC => by
    rcases hC with rfl | rfl | rfl
    · exact ⟨cl_Sheet, He.noat_ok (c.factAt 23 (f := fun K => (He.Fa.noat "Sheet" "above").ok K) rfl)⟩
    · exact ⟨cl_Bound, He.noat_ok (c.factAt 31 (f := fun K => (He.Fa.noat "Bound" "above").ok K) rfl)⟩
    · exact ⟨cl_Shut, He.noat_ok (c.factAt 39 (f := fun K => (He.Fa.noat "Shut" "above").ok K) rfl)⟩
  have fl_value : ∀ C, F3 (⟨He.ga K "Sheet", He.ga K "Bound", He.ga K "Shut"⟩ : Oc) C → Cls K C ∧ NoAttr K C "value" := fun C hC => by
    rcases hC with rfl | rfl | rfl
    · exact ⟨cl_Sheet, He.noat_ok (c.factAt 24 (f := fun K => (He.Fa.noat "Sheet" "value").ok K) rfl)⟩
    · exact ⟨cl_Bound, He.noat_ok (c.factAt 32 (f := fun K => (He.Fa.noat "Bound" "value").ok K) rfl)⟩
    · exact ⟨cl_Shut, He.noat_ok (c.factAt 40 (f := fun K => (He.Fa.noat "Shut" "value").ok K) rfl)⟩
  have fl_player : ∀ C, F3 (⟨He.ga K "Sheet", He.ga K "Bound", He.ga K "Shut"⟩ : Oc) C → Cls K C ∧ NoAttr K C "player" := fun C hC => by
    rcases hC with rfl | rfl | rfl
    · exact ⟨cl_Sheet, He.noat_ok (c.factAt 25 (f := fun K => (He.Fa.noat "Sheet" "player").ok K) rfl)⟩
    · exact ⟨cl_Bound, He.noat_ok (c.factAt 33 (f := fun K => (He.Fa.noat "Bound" "player").ok K) rfl)⟩
    · exact ⟨cl_Shut, He.noat_ok (c.factAt 41 (f := fun K => (He.Fa.noat "Shut" "player").ok K) rfl)⟩
  have fl : ∀ f : Str, f ∈ (["equal", "above", "value", "player"] : List Str) → ∀ C, F3 (⟨He.ga K "Sheet", He.ga K "Bound", He.ga K "Shut"⟩ : Oc) C → Cls K C ∧ NoAttr K C f := fun f hf => by
    rcases List.mem_cons.mp hf with rfl | hf
    · exact fl_equal
    rcases List.mem_cons.mp hf with rfl | hf
    · exact fl_above
    rcases List.mem_cons.mp hf with rfl | hf
    · exact fl_value
    cases List.mem_singleton.mp hf
    exact fl_player
  have RSI := gfunM (P := l.prog) (w := w) (mg := mg) (base := base) (S := S_sI (⟨He.ga K "Sheet", He.ga K "Bound", He.ga K "Shut"⟩ : Oc)) FSI bSI scm_Sheet_init (len_sI _) (k := 0) (fun cdv A outer s H E _ => dm_Sheet_init fl B.list cdv A outer s H E) (pure_sI _)
  have RSN := gfunM (P := l.prog) (w := w) (mg := mg) (base := base) (S := S_sN (⟨He.ga K "Sheet", He.ga K "Bound", He.ga K "Shut"⟩ : Oc)) FSN bSN scm_Sheet_numbers (len_sN _) (k := 0) (fun cdv A outer s H E _ => dm_Sheet_numbers fl cdv A outer s H E) (pure_sN _)
  have sup0 := He.free_ok X G (c.factAt 19 (f := fun K => (He.Fa.free "super").ok K) rfl)
  have any0 : PySem.W.nsIn K cStatics "thirdparty.any" = some none := of_decide_eq_true (c.factAt 50 (f := fun K => decide (PySem.W.nsIn K cStatics "thirdparty.any" = some none)) rfl)
  obtain ⟨cc_Boundinit, c_Boundinit, fd_Boundinit, F_Boundinit⟩ := sup_mk (P := l.prog) (mg := mg) (d := ⟨("Bound", some "__init__"), "__init__", "Bound.__init__", defArgs m_Bound_init, defBody m_Bound_init, defScope m_Bound_init⟩) (c2.sup (⟨("Bound", some "__init__"), "__init__", "Bound.__init__", defArgs m_Bound_init, defBody m_Bound_init, defScope m_Bound_init⟩, "Bound") (List.mem_of_getElem? (i := 0) rfl)) ⟨_, rfl, rfl⟩ hfile (c.factAt 47 (f := fun K => PySem.W.isClsIn K (He.ga K "Bound")) rfl) htop sup0 any0
  have b_Boundinit := F_Boundinit.binds (ps := ["self", "equal", "above", "value"]) fun _ _ _ _ _ us hl => match us, hl with | [_, _, _, _], _ => rfl
  obtain ⟨_, _, _, _, _, _, _, fe_Boundinit⟩ := F_Boundinit.fd
  have R_Boundinit := gfunS (P := l.prog) (w := w) (base := base) (S := S_xI (⟨He.ga K "Sheet", He.ga K "Bound", He.ga K "Shut"⟩ : Oc) (He.ga K "Bound") "value") F_Boundinit.ok fe_Boundinit F_Boundinit.cd scm_Bound_init b_Boundinit (len_xI _ _ _) (k := 1) (fun A outer s H E hr => dm_Bound_init (O := (⟨He.ga K "Sheet", He.ga K "Bound", He.ga K "Shut"⟩ : Oc)) fl F_Boundinit.ok (supm_ok (c.factAt 60 (f := fun K => supmB K "Bound" "Sheet" "__init__") rfl)) RSI A outer s H E hr) (pure_xI _ _ _ _ (.inr (.inl rfl)) (eq_false (by decide)) (eq_false (by decide)))
  obtain ⟨cc_Boundnumbers, c_Boundnumbers, fd_Boundnumbers, F_Boundnumbers⟩ := sup_mk (P := l.prog) (mg := mg) (d := ⟨("Bound", some "numbers"), "numbers", "Bound.numbers", defArgs m_Bound_numbers, defBody m_Bound_numbers, defScope m_Bound_numbers⟩) (c2.sup (⟨("Bound", some "numbers"), "numbers", "Bound.numbers", defArgs m_Bound_numbers, defBody m_Bound_numbers, defScope m_Bound_numbers⟩, "Bound") (List.mem_of_getElem? (i := 1) rfl)) ⟨_, rfl, rfl⟩ hfile (c.factAt 47 (f := fun K => PySem.W.isClsIn K (He.ga K "Bound")) rfl) htop sup0 any0
  have b_Boundnumbers := F_Boundnumbers.binds (ps := ["self"]) fun _ _ _ _ _ us hl => match us, hl with | [_], _ => rfl
  obtain ⟨_, _, _, _, _, _, _, fe_Boundnumbers⟩ := F_Boundnumbers.fd
  have R_Boundnumbers := gfunS (P := l.prog) (w := w) (base := base) (S := S_xN (⟨He.ga K "Sheet", He.ga K "Bound", He.ga K "Shut"⟩ : Oc) (He.ga K "Bound") "value") F_Boundnumbers.ok fe_Boundnumbers F_Boundnumbers.cd scm_Bound_numbers b_Boundnumbers (len_xN _ _ _) (k := 1) (fun A outer s H E hr => dm_Bound_numbers (O := (⟨He.ga K "Sheet", He.ga K "Bound", He.ga K "Shut"⟩ : Oc)) fl F_Boundnumbers.ok (supm_ok (c.factAt 61 (f := fun K => supmB K "Bound" "Sheet" "numbers") rfl)) RSN A outer s H E hr) (pure_xN _ _ _ _ (.inr (.inl rfl)) (by decide) (by decide))
  obtain ⟨cc_Shutinit, c_Shutinit, fd_Shutinit, F_Shutinit⟩ := sup_mk (P := l.prog) (mg := mg) (d := ⟨("Shut", some "__init__"), "__init__", "Shut.__init__", defArgs m_Shut_init, defBody m_Shut_init, defScope m_Shut_init⟩) (c2.sup (⟨("Shut", some "__init__"), "__init__", "Shut.__init__", defArgs m_Shut_init, defBody m_Shut_init, defScope m_Shut_init⟩, "Shut") (List.mem_of_getElem? (i := 2) rfl)) ⟨_, rfl, rfl⟩ hfile (c.factAt 49 (f := fun K => PySem.W.isClsIn K (He.ga K "Shut")) rfl) htop sup0 any0
  have b_Shutinit := F_Shutinit.binds (ps := ["self", "equal", "above", "player"]) fun _ _ _ _ _ us hl => match us, hl with | [_, _, _, _], _ => rfl
  obtain ⟨_, _, _, _, _, _, _, fe_Shutinit⟩ := F_Shutinit.fd
  have R_Shutinit := gfunS (P := l.prog) (w := w) (base := base) (S := S_xI (⟨He.ga K "Sheet", He.ga K "Bound", He.ga K "Shut"⟩ : Oc) (He.ga K "Shut") "player") F_Shutinit.ok fe_Shutinit F_Shutinit.cd scm_Shut_init b_Shutinit (len_xI _ _ _) (k := 1) (fun A outer s H E hr => dm_Shut_init (O := (⟨He.ga K "Sheet", He.ga K "Bound", He.ga K "Shut"⟩ : Oc)) fl F_Shutinit.ok (supm_ok (c.factAt 62 (f := fun K => supmB K "Shut" "Sheet" "__init__") rfl)) RSI A outer s H E hr) (pure_xI _ _ _ _ (.inr (.inr rfl)) (eq_false (by decide)) (eq_false (by decide)))
  obtain ⟨cc_Shutnumbers, c_Shutnumbers, fd_Shutnumbers, F_Shutnumbers⟩ := sup_mk (P := l.prog) (mg := mg) (d := ⟨("Shut", some "numbers"), "numbers", "Shut.numbers", defArgs m_Shut_numbers, defBody m_Shut_numbers, defScope m_Shut_numbers⟩) (c2.sup (⟨("Shut", some "numbers"), "numbers", "Shut.numbers", defArgs m_Shut_numbers, defBody m_Shut_numbers, defScope m_Shut_numbers⟩, "Shut") (List.mem_of_getElem? (i := 3) rfl)) ⟨_, rfl, rfl⟩ hfile (c.factAt 49 (f := fun K => PySem.W.isClsIn K (He.ga K "Shut")) rfl) htop sup0 any0
  have b_Shutnumbers := F_Shutnumbers.binds (ps := ["self"]) fun _ _ _ _ _ us hl => match us, hl with | [_], _ => rfl
  obtain ⟨_, _, _, _, _, _, _, fe_Shutnumbers⟩ := F_Shutnumbers.fd
  have R_Shutnumbers := gfunS (P := l.prog) (w := w) (base := base) (S := S_xN (⟨He.ga K "Sheet", He.ga K "Bound", He.ga K "Shut"⟩ : Oc) (He.ga K "Shut") "player") F_Shutnumbers.ok fe_Shutnumbers F_Shutnumbers.cd scm_Shut_numbers b_Shutnumbers (len_xN _ _ _) (k := 1) (fun A outer s H E hr => dm_Shut_numbers (O := (⟨He.ga K "Sheet", He.ga K "Bound", He.ga K "Shut"⟩ : Oc)) fl F_Shutnumbers.ok (supm_ok (c.factAt 63 (f := fun K => supmB K "Shut" "Sheet" "numbers") rfl)) RSN A outer s H E hr) (pure_xN _ _ _ _ (.inr (.inr rfl)) (by decide) (by decide))
  have o : OF l.prog w K mg base (⟨He.ga K "Sheet", He.ga K "Bound", He.ga K "Shut"⟩ : Oc) := {
    fld := fl
    mk_Sheet := ⟨_, RSI.mono (by decide), mk_Sheet, n_Sheet⟩
    mk_Bound := ⟨_, R_Boundinit, mk_Bound, n_Bound⟩
    mk_Shut := ⟨_, R_Shutinit, mk_Shut, n_Shut⟩
    mt_numbers := fun C S hs => by
      rcases hs with ⟨rfl, rfl⟩ | ⟨rfl, rfl⟩ | ⟨rfl, rfl⟩
      · exact ⟨_, RSN.mono (by decide), cl_Sheet, mt_Sheet⟩
      · exact ⟨_, R_Boundnumbers, cl_Bound, mt_Bound⟩
      · exact ⟨_, R_Shutnumbers, cl_Shut, mt_Shut⟩
    isi := fun C T b hs => by
      rcases hs with ⟨rfl, rfl, rfl⟩ | ⟨rfl, rfl, rfl⟩ | ⟨rfl, rfl, rfl⟩ | ⟨rfl, rfl, rfl⟩ | ⟨rfl, rfl, rfl⟩ | ⟨rfl, rfl, rfl⟩ | ⟨rfl, rfl, rfl⟩ | ⟨rfl, rfl, rfl⟩ | ⟨rfl, rfl, rfl⟩
      · exact ⟨it_Sheet, of_decide_eq_true (c.factAt 51 (f := fun K => decide (PySem.W.kitOne K (.ref (He.ga K "Sheet")) (.ref (He.ga K "Sheet")) = some true)) rfl)⟩
      · exact ⟨it_Bound, of_decide_eq_true (c.factAt 52 (f := fun K => decide (PySem.W.kitOne K (.ref (He.ga K "Bound")) (.ref (He.ga K "Sheet")) = some true)) rfl)⟩
      · exact ⟨it_Shut, of_decide_eq_true (c.factAt 53 (f := fun K => decide (PySem.W.kitOne K (.ref (He.ga K "Shut")) (.ref (He.ga K "Sheet")) = some true)) rfl)⟩
      · exact ⟨it_Sheet, of_decide_eq_true (c.factAt 54 (f := fun K => decide (PySem.W.kitOne K (.ref (He.ga K "Sheet")) (.ref (He.ga K "Bound")) = some false)) rfl)⟩
      · exact ⟨it_Sheet, of_decide_eq_true (c.factAt 55 (f := fun K => decide (PySem.W.kitOne K (.ref (He.ga K "Sheet")) (.ref (He.ga K "Shut")) = some false)) rfl)⟩
      · exact ⟨it_Bound, of_decide_eq_true (c.factAt 56 (f := fun K => decide (PySem.W.kitOne K (.ref (He.ga K "Bound")) (.ref (He.ga K "Shut")) = some false)) rfl)⟩
      · exact ⟨it_Shut, of_decide_eq_true (c.factAt 57 (f := fun K => decide (PySem.W.kitOne K (.ref (He.ga K "Shut")) (.ref (He.ga K "Bound")) = some false)) rfl)⟩
      · exact ⟨it_Bound, of_decide_eq_true (c.factAt 58 (f := fun K => decide (PySem.W.kitOne K (.ref (He.ga K "Bound")) (.ref (He.ga K "Bound")) = some true)) rfl)⟩
      · exact ⟨it_Shut, of_decide_eq_true (c.factAt 59 (f := fun K => decide (PySem.W.kitOne K (.ref (He.ga K "Shut")) (.ref (He.ga K "Shut")) = some true)) rfl)⟩
    n_Sheet := n_Sheet
    n_Bound := n_Bound
    n_Shut := n_Shut
  }
  exact law_of F_law sc_law rfl (fun cdv A outer s H E hr => d_law o c_law_bag c_law_pull c_law_ratio c_law_same B cdv A outer s H E hr) (pure_law _)
end K19
open PySem PySem.W PySem.Calls PyProof.Rows
set_option maxRecDepth 100000 in
set_option maxHeartbeats 0 in
theorem PySem.Challenge.cw_graincourse_k19_sheets_as_objects_holds : PySem.Challenge.rw_graincourse_k19_sheets_as_objects.Holds := by
  w_on; o_law
  refine HandSHeadRun.head_any (r := OpenLaw.row PySem.Challenge.rw_graincourse_k19_sheets_as_objects) (q := view (OpenLaw.row PySem.Challenge.rw_graincourse_k19_sheets_as_objects).prog [13]) (H := K19.plan.hook) (ob := K19.ob) (M := 20000) (loose := K19.loose) (d := HandSHeadRun.topDef (OpenLaw.row PySem.Challenge.rw_graincourse_k19_sheets_as_objects).prog 13) (kwd := []) K19.ob_eq
    (by kernel_rfl) (fun s => by kernel_rfl) K19.run (by kernel_rfl) (by kernel_rfl) (by kernel_rfl) (by rfl) (by first | assumption | decide +kernel) (by decide +kernel) ⟨rfl, rfl, rfl, rfl, rfl, by decide +kernel⟩ ?hw ?hc
  case hw => w_witness2
  case hc =>
    refine L2.walk_ofE (l := PySem.Challenge.rw_graincourse_k19_sheets_as_objects) (n := 63) (k := 5) (x := "_law_script") (CX := L2.CX0) rfl (by decide) (by kernel_rfl) ⟨rfl, by decide, by decide⟩ ?F (fun _ _ _ _ z => z)
    intro w mg fa h Y G hmg0
    obtain ⟨K, KX, c⟩ := Y
    have hmg : mg ("law" : PySem.Str) = some (.ref fa) := by
      have e : (HandSHeadRun.topDef (OpenLaw.row PySem.Challenge.rw_graincourse_k19_sheets_as_objects).prog 13).name = ("law" : PySem.Str) := by kernel_rfl
      rw [← e]
      exact hmg0
    obtain ⟨fd, hb, hF⟩ := K19.all_mk (l := PySem.Challenge.rw_graincourse_k19_sheets_as_objects) (w := w) KX G hmg c (by kernel_rfl) (by kernel_rfl)
    exact ⟨K, fd, Gh.spLaw K, KX, hb, fun H a ns hl _ hS => ⟨a, ns, rfl, hS, hl, fun _ => rfl⟩, hF⟩
