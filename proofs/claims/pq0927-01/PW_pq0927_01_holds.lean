import PyProof.Rows.All
import Wide.All
import OpenK.AllK
import Wide.FinOn
import Lean
import PySem.Challenge.RW_pq0927_01
set_option Elab.async false
set_option compiler.extract_closed false
set_option genSizeOf false
set_option genInjectivity false
namespace Mine
open PySem PySem.Calls
theorem fuel_step {f b x e : Nat} (h1 : b ≤ x) (h2 : x < e) (h3 : e - b ≤ f + 1) : e - (x + 1) ≤ f := Nat.le_of_succ_le_succ (Nat.le_trans (Nat.sub_lt_sub_left (Nat.lt_of_le_of_lt h1 h2) (Nat.lt_succ_of_le h1)) h3)
theorem add_sub_one {a b : Nat} (h : a < b) : a + (b - a - 1) = b - 1 := by rw [← Nat.add_sub_assoc (Nat.sub_pos_of_lt h), Nat.add_sub_cancel' (Nat.le_of_lt h)]
theorem min_next {l i n : Nat} (h : l = min i n) (h2 : i < n) : l + 1 = min (i + 1) n := by rw [h, Nat.min_eq_left (Nat.le_of_lt h2), Nat.min_eq_left h2]
theorem min_at {l i n : Nat} (h : l = min i n) (h2 : i < n) : l = i := by rw [h, Nat.min_eq_left (Nat.le_of_lt h2)]
theorem add_sub_max (a b : Nat) : a + (b - a) = max a b := by
  rcases Nat.le_total a b with h | h
  · rw [Nat.add_sub_cancel' h, Nat.max_eq_right h]
  · rw [Nat.sub_eq_zero_of_le h, Nat.max_eq_left h]; rfl
theorem sub_step {N x m : Nat} (h : N - x = m + 1) : N - (x + 1) = m := by rw [Nat.sub_succ, h]; rfl
theorem sub_pos' {N x m : Nat} (h : N - x = m + 1) : x < N := Nat.lt_of_sub_pos (h ▸ Nat.succ_pos m)
theorem step_lt {j f : Nat} (h1 : j ≤ f) (h2 : j ≠ f) : f - (j + 1) < f - j := Nat.sub_lt_sub_left (Nat.lt_of_le_of_ne h1 h2) (Nat.lt_succ_self j)
theorem sub_eq' {N i : Nat} (h1 : i ≤ N) (h2 : N - i = 0) : i = N := Nat.le_antisymm h1 (Nat.le_of_sub_eq_zero h2)
theorem row_few {go n : Nat} : min go n + (n - (go + 1)) ≤ n := by
  rcases Nat.lt_or_ge go n with h | h
  · rw [Nat.min_eq_left (Nat.le_of_lt h)]; exact Nat.le_trans (Nat.add_le_add_left (Nat.sub_le_sub_left (Nat.le_succ go) n) go) (Nat.le_of_eq (Nat.add_sub_cancel' (Nat.le_of_lt h)))
  · rw [Nat.min_eq_right h, Nat.sub_eq_zero_of_le (Nat.le_succ_of_le h)]; exact Nat.le_refl n
theorem last_nat {n : Nat} (h : 0 < n) : (-1 + (n : Int)) = ((n - 1 : Nat) : Int) := by
  cases n with
  | zero => cases h
  | succ m => rw [Int.natCast_succ, Int.add_comm, Int.add_neg_cancel_right]; rfl
theorem last_lt {n : Nat} (h : 0 < n) : ((n - 1 : Nat) : Int) < (n : Int) := Int.ofNat_lt.mpr (Nat.sub_lt h Nat.one_pos)
theorem turn_lt {i N : Nat} (h : i < N) : N + 1 - (i + 1) < N + 1 - i := Nat.sub_lt_sub_left (Nat.lt_succ_of_lt h) (Nat.lt_succ_self i)

/-! ## Data that values denote -/
inductive D where
  | val (v : Value)
  | int (i : Int)
  | str (x : Str)
  | bytes (b : List UInt8)
  | tup (ds : List D)
noncomputable abbrev D.bool (b : Bool) : D := .val (.bool b)
noncomputable abbrev D.ref (a : Addr) : D := .val (.ref a)
noncomputable abbrev D.none : D := .val .none

noncomputable def flatV : Value → Bool
  | .int .. => true
  | .str .. => true
  | .bytes .. => true
  | .bool _ => true
  | _ => false
noncomputable def flatD : D → Bool
  | .int _ => true
  | .str _ => true
  | .bytes _ => true
  | .val (.bool _) => true
  | _ => false

mutual
inductive Rep (h : Heap) : Value → D → Prop
  | val (v : Value) : Rep h v (.val v)
  | int (i : Int) (t : Tok) : Rep h (.int i t) (.int i)
  | str (x : Str) (t : Tok) : Rep h (.str x t) (.str x)
  | bytes (b : List UInt8) (t : Tok) : Rep h (.bytes b.toArray t) (.bytes b)
  | tup {a : Addr} {o : Obj} {vs : Array Value} {n : Nat} {ds : List D} (ho : h.get? a = some o) (hc : o.cls = .type "tuple") (hd : o.data = .seq vs n) (hf : vs.toList.all flatV = true) (r : Reps h vs.toList ds) : Rep h (.ref a) (.tup ds)
inductive Reps (h : Heap) : List Value → List D → Prop
  | nil : Reps h [] []
  | cons {v : Value} {d : D} {vs : List Value} {ds : List D} (r : Rep h v d) (rs : Reps h vs ds) : Reps h (v :: vs) (d :: ds)
end

noncomputable def TupKeep (h h' : Heap) : Prop := ∀ b o vs n, h.get? b = some o → o.cls = .type "tuple" → o.data = .seq vs n → vs.toList.all flatV = true → h'.get? b = some o
noncomputable def Kept (h h' : Heap) : Prop := ∀ b o, h.get? b = some o → h'.get? b = some o
theorem Kept.refl (h : Heap) : Kept h h := fun _ _ e => e
theorem Kept.trans {a b c : Heap} (x : Kept a b) (y : Kept b c) : Kept a c := fun _ _ e => y _ _ (x _ _ e)
theorem Kept.tup {h h' : Heap} (x : Kept h h') : TupKeep h h' := fun b o _ _ e _ _ _ => x b o e
theorem TupKeep.refl (h : Heap) : TupKeep h h := fun _ _ _ _ e _ _ _ => e
theorem TupKeep.trans {a b c : Heap} (x : TupKeep a b) (y : TupKeep b c) : TupKeep a c := fun _ _ _ _ e k l f => y _ _ _ _ (x _ _ _ _ e k l f) k l f

theorem Rep.mono {h h' : Heap} (k : TupKeep h h') {v : Value} {d : D} (r : Rep h v d) : Rep h' v d :=
  Rep.rec (motive_1 := fun v d _ => Rep h' v d) (motive_2 := fun vs ds _ => Reps h' vs ds) .val .int .str .bytes (fun ho hc hd hf _ ih => .tup (k _ _ _ _ ho hc hd hf) hc hd hf ih) .nil (fun _ _ i1 i2 => .cons i1 i2) r
theorem Reps.mono {h h' : Heap} (k : TupKeep h h') {vs : List Value} {ds : List D} (r : Reps h vs ds) : Reps h' vs ds :=
  Reps.rec (motive_1 := fun v d _ => Rep h' v d) (motive_2 := fun vs ds _ => Reps h' vs ds) .val .int .str .bytes (fun ho hc hd hf _ ih => .tup (k _ _ _ _ ho hc hd hf) hc hd hf ih) .nil (fun _ _ i1 i2 => .cons i1 i2) r
@[elab_as_elim] theorem Reps.ind {h : Heap} {P : List Value → List D → Prop} (hn : P [] []) (hc : ∀ (v : Value) (d : D) (vs : List Value) (ds : List D), Rep h v d → Reps h vs ds → P vs ds → P (v :: vs) (d :: ds)) {vs : List Value} {ds : List D} (r : Reps h vs ds) : P vs ds :=
  Reps.rec (motive_1 := fun _ _ _ => True) (motive_2 := fun vs ds _ => P vs ds) (fun _ => trivial) (fun _ _ => trivial) (fun _ _ => trivial) (fun _ _ => trivial) (fun _ _ _ _ _ _ => trivial) hn (fun r rs _ i => hc _ _ _ _ r rs i) r

theorem Rep.flat {h : Heap} {v : Value} {d : D} (r : Rep h v d) (f : flatD d = true) : flatV v = true := by
  cases r with
  | val v => cases v <;> first | rfl | cases f
  | int => rfl
  | str => rfl
  | bytes => rfl
  | tup => cases f
theorem Reps.flat {h : Heap} {vs : List Value} {ds : List D} (r : Reps h vs ds) : ds.all flatD = true → vs.all flatV = true :=
  Reps.ind (fun _ => rfl) (fun v d vs ds r _ ih f => by
    rw [List.all_cons, Bool.and_eq_true] at f ⊢
    exact ⟨r.flat f.1, ih f.2⟩) r
/-- a value just made: a tuple that may hold references -/
inductive RepT (h : Heap) : Value → D → Prop
  | rep {v : Value} {d : D} (r : Rep h v d) : RepT h v d
  | tup {a : Addr} {o : Obj} {vs : Array Value} {n : Nat} {ds : List D} (ho : h.get? a = some o) (hc : o.cls = .type "tuple") (hd : o.data = .seq vs n) (r : Reps h vs.toList ds) : RepT h (.ref a) (.tup ds)
theorem RepT.kept {h h' : Heap} (k : Kept h h') {v : Value} {d : D} (r : RepT h v d) : RepT h' v d := by
  cases r with
  | rep r => exact .rep (r.mono k.tup)
  | tup ho hc hd r => exact .tup (k _ _ ho) hc hd (r.mono k.tup)
theorem RepT.toRep {h : Heap} {v : Value} {d : D} (r : RepT h v d) (hf : ∀ xs, d = .tup xs → xs.all flatD = true) : Rep h v d := by
  cases r with
  | rep r => exact r
  | tup ho hc hd r => exact .tup ho hc hd (r.flat (hf _ rfl)) r
theorem Reps.length {h : Heap} {vs : List Value} {ds : List D} (r : Reps h vs ds) : vs.length = ds.length := Reps.ind rfl (fun _ _ _ _ _ _ ih => congrArg (· + 1) ih) r
theorem Reps.get {h : Heap} {vs : List Value} {ds : List D} {i : Nat} {d : D} (r : Reps h vs ds) : ds[i]? = some d → ∃ v, vs[i]? = some v ∧ Rep h v d :=
  Reps.ind (P := fun vs ds => ∀ i, ds[i]? = some d → ∃ v, vs[i]? = some v ∧ Rep h v d) (fun i e => by cases i <;> cases e) (fun v d' vs ds r _ ih i e => by
    cases i with
    | zero => cases e; exact ⟨v, rfl, r⟩
    | succ i => exact ih i e) r i
theorem Reps.append {h : Heap} {vs : List Value} {ds : List D} {vs' : List Value} {ds' : List D} (r : Reps h vs ds) (r' : Reps h vs' ds') : Reps h (vs ++ vs') (ds ++ ds') :=
  Reps.ind (P := fun vs ds => Reps h (vs ++ vs') (ds ++ ds')) r' (fun _ _ _ _ r _ ih => .cons r ih) r
theorem Reps.take {h : Heap} {vs : List Value} {ds : List D} (n : Nat) (r : Reps h vs ds) : Reps h (vs.take n) (ds.take n) :=
  Reps.ind (P := fun vs ds => ∀ n, Reps h (vs.take n) (ds.take n)) (fun n => by cases n <;> exact .nil) (fun _ _ _ _ r _ ih n => by
    cases n with
    | zero => exact .nil
    | succ n => exact .cons r (ih n)) r n
theorem Reps.drop {h : Heap} {vs : List Value} {ds : List D} (n : Nat) (r : Reps h vs ds) : Reps h (vs.drop n) (ds.drop n) :=
  Reps.ind (P := fun vs ds => ∀ n, Reps h (vs.drop n) (ds.drop n)) (fun n => by cases n <;> exact .nil) (fun _ _ _ _ r rs ih n => by
    cases n with
    | zero => exact .cons r rs
    | succ n => exact ih n) r n
theorem Reps.set {h : Heap} {v : Value} {d : D} (r' : Rep h v d) {vs : List Value} {ds : List D} (n : Nat) (r : Reps h vs ds) : Reps h (vs.set n v) (ds.set n d) :=
  Reps.ind (P := fun vs ds => ∀ n, Reps h (vs.set n v) (ds.set n d)) (fun n => .nil) (fun _ _ _ _ r rs ih n => by
    cases n with
    | zero => exact .cons r' rs
    | succ n => exact .cons r (ih n)) r n

/-! ## The ledger of lists -/
noncomputable abbrev Led := Addr → Option (List D)
noncomputable def Led.none : Led := fun _ => Option.none
noncomputable def upd (μ : Led) (a : Addr) (ds : List D) : Led := fun b => if b = a then some ds else μ b
@[simp] theorem upd_same (μ : Led) (a : Addr) (ds : List D) : upd μ a ds a = some ds := by simp [upd]
theorem upd_ne (μ : Led) {a b : Addr} (ds : List D) (h : b ≠ a) : upd μ a ds b = μ b := by simp [upd, h]
theorem upd_some {μ : Led} {a b : Addr} {ds ds' : List D} (hb : μ b = some ds') (ha : μ a = Option.none) : upd μ a ds b = some ds' := by
  rw [upd_ne]; exact hb
  rintro rfl; rw [ha] at hb; cases hb
theorem upd_upd (μ : Led) (a : Addr) (x y : List D) : upd (upd μ a x) a y = upd μ a y := by
  funext b; unfold upd; split <;> rfl

noncomputable def LstAt (h : Heap) (a : Addr) (ds : List D) : Prop := ∃ o vs n, h.get? a = some o ∧ o.cls = .type "list" ∧ o.dict = Option.none ∧ o.data = .seq vs n ∧ Reps h vs.toList ds
theorem LstAt.isList {h : Heap} {a : Addr} {ds : List D} (x : LstAt h a ds) : ∃ vs, h.IsList a vs ∧ Reps h vs.toList ds := by
  obtain ⟨o, vs, n, ho, hc, _, hd, r⟩ := x
  exact ⟨vs, ⟨o, ho, hc, n, hd⟩, r⟩
theorem LstAt.at {h h' : Heap} {a : Addr} {ds : List D} (x : LstAt h a ds) (k : TupKeep h h') (e : h'.get? a = h.get? a) : LstAt h' a ds := by
  obtain ⟨o, vs, n, ho, hc, hn, hd, r⟩ := x
  exact ⟨o, vs, n, e.trans ho, hc, hn, hd, r.mono k⟩
theorem LstAt.kept {h h' : Heap} {a : Addr} {ds : List D} (x : LstAt h a ds) (k : Kept h h') : LstAt h' a ds := by
  obtain ⟨o, vs, n, ho, hc, hn, hd, r⟩ := x
  exact ⟨o, vs, n, k _ _ ho, hc, hn, hd, r.mono k.tup⟩

structure LedOk (h₀ : Heap) (μ : Led) (h : Heap) : Prop where
  lst : ∀ a ds, μ a = some ds → LstAt h a ds
  new : ∀ a ds, μ a = some ds → h₀.get? a = Option.none
theorem LedOk.kept {h₀ h h' : Heap} {μ : Led} (x : LedOk h₀ μ h) (k : Kept h h') : LedOk h₀ μ h' := ⟨fun a ds e => (x.lst a ds e).kept k, x.new⟩
theorem LedOk.sub {h₀ h : Heap} {μ ν : Led} (x : LedOk h₀ μ h) (k : ∀ a ds, ν a = some ds → μ a = some ds) : LedOk h₀ ν h := ⟨fun a ds e => x.lst a ds (k a ds e), fun a ds e => x.new a ds (k a ds e)⟩

/-- the heap with the ledger's addresses hidden -/
noncomputable def hide (h : Heap) (p : Addr → Bool) : Heap := ⟨h.objs.mapIdx fun i o => if p i then { o with data := .freed } else o, h.life⟩
theorem hide_size (h : Heap) (p : Addr → Bool) : (hide h p).objs.size = h.objs.size := by simp [hide]
theorem hide_none {h : Heap} {p : Addr → Bool} {a : Addr} (e : p a = true) : (hide h p).get? a = Option.none := by
  cases q : (hide h p).get? a with
  | none => rfl
  | some o =>
    exfalso
    obtain ⟨h1, h2⟩ := Heap.get?_some_iff.mp q
    simp only [hide, Array.getElem?_mapIdx, Option.map_eq_some_iff] at h1
    obtain ⟨o', _, ho⟩ := h1
    rw [if_pos e] at ho
    subst ho
    simp [Obj.isFreed] at h2
theorem hide_some {h : Heap} {p : Addr → Bool} {a : Addr} (e : p a = false) : (hide h p).get? a = h.get? a := by
  have : (hide h p).objs[a]? = h.objs[a]? := by
    simp only [hide, Array.getElem?_mapIdx, e]
    simp
  unfold Heap.get?
  rw [this]
theorem of_hide {h : Heap} {p : Addr → Bool} {a : Addr} {o : Obj} (e : (hide h p).get? a = some o) : h.get? a = some o := by
  cases q : p a with
  | true => rw [hide_none q] at e; cases e
  | false => rw [hide_some q] at e; exact e
theorem hide_kept (h : Heap) (p : Addr → Bool) : Kept (hide h p) h := fun _ _ e => of_hide e

/-! ## Steps of the state -/
noncomputable def Same (s s' : Shared) : Prop := ∃ h tk, s' = { s with heap := h, toks := tk }
theorem Same.refl (s : Shared) : Same s s := ⟨s.heap, s.toks, rfl⟩
theorem Same.trans {a b c : Shared} (x : Same a b) (y : Same b c) : Same a c := by
  obtain ⟨h, t, rfl⟩ := x
  obtain ⟨h', t', rfl⟩ := y
  exact ⟨h', t', rfl⟩
structure Stp (s s' : Shared) : Prop where
  same : Same s s'
  tup : TupKeep s.heap s'.heap
theorem Stp.refl (s : Shared) : Stp s s := ⟨.refl s, .refl _⟩
theorem Stp.trans {a b c : Shared} (x : Stp a b) (y : Stp b c) : Stp a c := ⟨x.same.trans y.same, x.tup.trans y.tup⟩
theorem Stp.kept {s : Shared} {h : Heap} {tk : Nat} (k : Kept s.heap h) : Stp s { s with heap := h, toks := tk } := ⟨⟨h, tk, rfl⟩, k.tup⟩

/-! ## The world: what the top laid -/
structure GW where
  prog : Program
  w : World
  mg : Str → Option Value
  mb : Str → Option Value
  Glb : Heap → Prop
  keeps : ∀ {h h' : Heap}, Glb h → Kept h h' → Glb h'
  g : ∀ {h : Heap}, Glb h → h.Ns mainGlobals mg
  b : ∀ {h : Heap}, Glb h → h.Ns builtinsNs mb
  lim : ∀ {h : Heap}, Glb h → h.NoLimit

structure AOk (A : Around) (n : Nat) : Prop where
  hand : A.handled = Option.none
  depth : A.depth + n ≤ 400
  units : A.units + 10 * n ≤ 1000
theorem AOk.room {A : Around} {n : Nat} (x : AOk A n) : A.depth < recursionLimit := by have := x.depth; unfold recursionLimit; omega
theorem AOk.cl {A : Around} {n : Nat} (x : AOk A n) : A.units < cLine := by have := x.units; have h : 2000 < cLine := (by decide); omega
theorem AOk.deeper {A : Around} {n : Nat} (x : AOk A (n + 1)) (e : Env) : AOk (A.deeper e) n := ⟨x.hand, by have := x.depth; show A.depth + 1 + n ≤ _; omega, by have := x.units; show A.units + 3 + _ ≤ _; omega⟩

/-! ## Frames -/
inductive Has : List Str → List (Option D) → Str → D → Prop
  | head {x : Str} {ns : List Str} {d : D} {ds : List (Option D)} : Has (x :: ns) (some d :: ds) x d
  | tail {x y : Str} {ns : List Str} {o : Option D} {d : D} {ds : List (Option D)} (h : Has ns ds x d) : Has (y :: ns) (o :: ds) x d
inductive Put : List Str → List (Option D) → Str → D → List (Option D) → Prop
  | head {x : Str} {ns : List Str} {o : Option D} {d : D} {ds : List (Option D)} : Put (x :: ns) (o :: ds) x d (some d :: ds)
  | tail {x y : Str} {ns : List Str} {o : Option D} {d : D} {ds ds' : List (Option D)} (h : Put ns ds x d ds') : Put (y :: ns) (o :: ds) x d (o :: ds')
theorem Has.mem {ns : List Str} {ds : List (Option D)} {x : Str} {d : D} (h : Has ns ds x d) : x ∈ ns := by
  induction h with
  | head => exact .head _
  | tail _ ih => exact .tail _ ih
theorem Put.mem {ns : List Str} {ds ds' : List (Option D)} {x : Str} {d : D} (h : Put ns ds x d ds') : x ∈ ns := by
  induction h with
  | head => exact .head _
  | tail _ ih => exact .tail _ ih
theorem Put.has {ns : List Str} {ds ds' : List (Option D)} {x : Str} {d : D} (h : Put ns ds x d ds') (nd : ns.Nodup) {y : Str} {d' : D} (q : Has ns ds' y d') : (y = x ∧ d' = d) ∨ (y ≠ x ∧ Has ns ds y d') := by
  induction h with
  | head =>
    cases q with
    | head => exact .inl ⟨rfl, rfl⟩
    | tail q => exact .inr ⟨fun e => (List.nodup_cons.mp nd).1 (e ▸ q.mem), .tail q⟩
  | tail h ih =>
    cases q with
    | head => exact .inr ⟨fun e => (List.nodup_cons.mp nd).1 (e ▸ h.mem), .head⟩
    | tail q =>
      rcases ih (List.nodup_cons.mp nd).2 q with e | e
      · exact .inl e
      · exact .inr ⟨e.1, .tail e.2⟩

noncomputable def GW.gval (W : GW) (x : Str) (v : Value) : Prop := W.mg x = some v ∨ (W.mg x = Option.none ∧ W.mb x = some v)

structure EnvOk (W : GW) (e : Env) (ns ro : List Str) (gs : List (Str × D)) : Prop where
  kind : e.scope.kind = .function
  glob : e.globals = mainGlobals
  bui : e.builtins = builtinsNs
  loc : ∀ x ∈ ns, (x == ("__debug__" : Str)) = false ∧ (e.kindOf x = some .local ∨ (e.kindOf x = some .cell ∧ ∃ c, e.cells.lookup x = some c))
  nd : ns.Nodup
  inj : ∀ x ∈ ns, ∀ y ∈ ns, ∀ c, e.kindOf x = some .cell → e.kindOf y = some .cell → e.cells.lookup x = some c → e.cells.lookup y = some c → x = y
  gl : ∀ p ∈ gs, (p.1 == ("__debug__" : Str)) = false ∧ e.kindOf p.1 = some .globalImplicit ∧ ∃ v, W.gval p.1 v ∧ ∀ h, W.Glb h → Rep h v p.2
  inter : interactive e = false
  own : ∀ x ∈ ns, x ∉ ro → e.kindOf x = some .cell → ∀ c, e.cells.lookup x = some c → e.locals < c

structure Fm where
  W : GW
  n : Nat
  e : Env
  ns : List Str
  ro : List Str
  gs : List (Str × D)

structure St (h₀ : Heap) (e : Env) (ns : List Str) (ds : List (Option D)) (μ : Led) (s : Shared) : Prop where
  loc : ∃ m, s.heap.Ns e.locals m ∧ ∀ x d, Has ns ds x d → e.kindOf x = some .local → ∃ v, m x = some v ∧ Rep s.heap v d
  cel : ∀ x c, x ∈ ns → e.kindOf x = some .cell → e.cells.lookup x = some c → ∃ w, s.heap.IsCell c w ∧ (∀ d, Has ns ds x d → ∃ v, w = some v ∧ Rep s.heap v d) ∧ (e.locals < c → h₀.get? c = Option.none)
  keep : Kept h₀ s.heap
  Lnew : h₀.get? e.locals = Option.none
  led : LedOk h₀ μ s.heap

structure Ok (F : Fm) (A : Around) (h₀ : Heap) (ds : List (Option D)) (μ : Led) (s : Shared) : Prop where
  a : AOk A F.n
  g : F.W.Glb h₀
  e : EnvOk F.W F.e F.ns F.ro F.gs
  st : St h₀ F.e F.ns ds μ s
theorem Ok.to {F : Fm} {A : Around} {h₀ : Heap} {ds ds' : List (Option D)} {μ μ' : Led} {s s' : Shared} (x : Ok F A h₀ ds μ s) (st : St h₀ F.e F.ns ds' μ' s') : Ok F A h₀ ds' μ' s' := ⟨x.a, x.g, x.e, st⟩

theorem St.kept {h₀ : Heap} {e : Env} {ns : List Str} {ds : List (Option D)} {μ : Led} {s : Shared} (x : St h₀ e ns ds μ s) {h : Heap} {tk : Nat} (k : Kept s.heap h) : St h₀ e ns ds μ { s with heap := h, toks := tk } where
  loc := let ⟨m, hm, hv⟩ := x.loc; ⟨m, hm.keeps k, fun y d q c => let ⟨v, e1, e2⟩ := hv y d q c; ⟨v, e1, e2.mono k.tup⟩⟩
  cel := fun y c q1 q2 q3 => let ⟨w, a1, a2, a3⟩ := x.cel y c q1 q2 q3; ⟨w, a1.keeps k, fun d q => let ⟨v, e1, e2⟩ := a2 d q; ⟨v, e1, e2.mono k.tup⟩, a3⟩
  keep := x.keep.trans k
  Lnew := x.Lnew
  led := x.led.kept k
theorem St.tok {h₀ : Heap} {e : Env} {ns : List Str} {ds : List (Option D)} {μ : Led} {s : Shared} (x : St h₀ e ns ds μ s) (tk : Nat) : St h₀ e ns ds μ { s with toks := tk } := x.kept (h := s.heap) (Kept.refl _)
theorem St.sub {h₀ : Heap} {e : Env} {ns : List Str} {ds : List (Option D)} {μ ν : Led} {s : Shared} (x : St h₀ e ns ds μ s) (k : ∀ a ds, ν a = some ds → μ a = some ds) : St h₀ e ns ds ν s :=
  ⟨x.loc, x.cel, x.keep, x.Lnew, x.led.sub k⟩

/-- a call or an operation may touch the ledger alone: the ground for it -/
noncomputable def ground (s : Shared) (μ : Led) : Heap := hide s.heap fun a => (μ a).isSome
theorem ground_kept (s : Shared) (μ : Led) : Kept (ground s μ) s.heap := hide_kept _ _
theorem ground_led {h₀ : Heap} {μ : Led} {s : Shared} (x : LedOk h₀ μ s.heap) : LedOk (ground s μ) μ s.heap := ⟨x.lst, fun a ds e => hide_none (by rw [e]; rfl)⟩
theorem base_ground {h₀ : Heap} {μ : Led} {s : Shared} (k : Kept h₀ s.heap) (x : LedOk h₀ μ s.heap) : Kept h₀ (ground s μ) := fun b o e => by
  have : (μ b).isSome = false := by
    cases q : μ b with
    | none => rfl
    | some ds => rw [x.new b ds q] at e; cases e
  exact (hide_some this).trans (k b o e)
theorem not_led_of_dict {h : Heap} {μ : Led} {h₀ : Heap} (x : LedOk h₀ μ h) {a : Addr} {o : Obj} (e : h.get? a = some o) (hd : ∀ vs n, o.data ≠ .seq vs n) : (μ a).isSome = false := by
  cases q : μ a with
  | none => rfl
  | some ds =>
    obtain ⟨o', vs, n, ho, _, _, hd', _⟩ := x.lst a ds q
    rw [e] at ho; cases ho
    exact absurd hd' (hd vs n)
theorem St.call {h₀ : Heap} {e : Env} {ns : List Str} {ds : List (Option D)} {μ μ' : Led} {s s' : Shared} (x : St h₀ e ns ds μ s) (st : Stp s s') (k : Kept (ground s μ) s'.heap) (l : LedOk (ground s μ) μ' s'.heap) : St h₀ e ns ds μ' s' where
  loc := by
    obtain ⟨m, hm, hv⟩ := x.loc
    refine ⟨m, ?_, fun y d q c => let ⟨v, e1, e2⟩ := hv y d q c; ⟨v, e1, e2.mono st.tup⟩⟩
    obtain ⟨o, es, ep, ho, hd, r⟩ := hm
    exact ⟨o, es, ep, k _ _ ((hide_some (not_led_of_dict x.led ho fun vs n q => by rw [hd] at q; cases q)).trans ho), hd, r⟩
  cel := fun y c q1 q2 q3 => by
    obtain ⟨w, ⟨o, ho, hd⟩, a2, a3⟩ := x.cel y c q1 q2 q3
    exact ⟨w, ⟨o, k _ _ ((hide_some (not_led_of_dict x.led ho fun vs n q => by rw [hd] at q; cases q)).trans ho), hd⟩, fun d q => let ⟨v, e1, e2⟩ := a2 d q; ⟨v, e1, e2.mono st.tup⟩, a3⟩
  keep := (base_ground x.keep x.led).trans k
  Lnew := x.Lnew
  led := ⟨l.lst, fun a ds q => by
    cases q' : h₀.get? a with
    | none => rfl
    | some o => have := l.new a ds q; rw [base_ground x.keep x.led a o q'] at this; cases this⟩

/-! ## What is said of a tree -/
section
variable (F : Fm)
/-- the end of a value -/
structure Pv (h₀ : Heap) (ds : List (Option D)) (K : D → Led → Prop) (s : Shared) (v : Value) (s' : Shared) : Prop where
  stp : Stp s s'
  out : ∃ d μ', K d μ' ∧ Rep s'.heap v d ∧ St h₀ F.e F.ns ds μ' s'
structure Pl (h₀ : Heap) (ds : List (Option D)) (K : List D → Led → Prop) (s : Shared) (vs : List Value) (s' : Shared) : Prop where
  stp : Stp s s'
  out : ∃ xs μ', K xs μ' ∧ Reps s'.heap vs xs ∧ St h₀ F.e F.ns ds μ' s'
structure Pb (h₀ : Heap) (ds : List (Option D)) (K : Bool → Led → Prop) (s : Shared) (b : Bool) (s' : Shared) : Prop where
  stp : Stp s s'
  out : ∃ μ', K b μ' ∧ St h₀ F.e F.ns ds μ' s'
structure Pu (h₀ : Heap) (K : List (Option D) → Led → Prop) (s : Shared) (s' : Shared) : Prop where
  stp : Stp s s'
  out : ∃ ds' μ', K ds' μ' ∧ St h₀ F.e F.ns ds' μ' s'
inductive Flw where
  | next | brk | cont
  | ret (d : D)
inductive FRep (h : Heap) : Flow → Flw → Prop
  | next : FRep h .next .next
  | brk : FRep h .brk .brk
  | cont : FRep h .cont .cont
  | ret {v : Value} {d : D} (r : Rep h v d) : FRep h (.ret v) (.ret d)
structure Pf (h₀ : Heap) (K : Flw → List (Option D) → Led → Prop) (s : Shared) (f : Flow) (s' : Shared) : Prop where
  stp : Stp s s'
  out : ∃ g ds' μ', K g ds' μ' ∧ FRep s'.heap f g ∧ St h₀ F.e F.ns ds' μ' s'

noncomputable def Nev : Value → Shared → Prop := fun _ _ => False

noncomputable def Wp (x : Expr) (ds : List (Option D)) (μ : Led) (K : D → Led → Prop) : Prop :=
  ∀ A h₀ s, Ok F A h₀ ds μ s → wpAny (model F.W.prog F.W.w) A (eval x F.e) (Pv F h₀ ds K s) Nev s
noncomputable def Wl (p : Pos) (xs : List Expr) (ds : List (Option D)) (μ : Led) (K : List D → Led → Prop) : Prop :=
  ∀ A h₀ s, Ok F A h₀ ds μ s → wpAny (model F.W.prog F.W.w) A (spliced (backTo p (starEach xs F.e))) (Pl F h₀ ds K s) Nev s
noncomputable def Wt (x : Expr) (ds : List (Option D)) (μ : Led) (K : Bool → Led → Prop) : Prop :=
  ∀ A h₀ s, Ok F A h₀ ds μ s → wpAny (model F.W.prog F.W.w) A (isTrue x F.e (eval x F.e)) (Pb F h₀ ds K s) Nev s
noncomputable def Ws (xs : List Stmt) (ds : List (Option D)) (μ : Led) (K : Flw → List (Option D) → Led → Prop) : Prop :=
  ∀ A h₀ s, Ok F A h₀ ds μ s → wpAny (model F.W.prog F.W.w) A (execs xs F.e) (Pf F h₀ K s) Nev s
noncomputable def We (x : Stmt) (ds : List (Option D)) (μ : Led) (K : Flw → List (Option D) → Led → Prop) : Prop :=
  ∀ A h₀ s, Ok F A h₀ ds μ s → wpAny (model F.W.prog F.W.w) A (exec x F.e) (Pf F h₀ K s) Nev s
/-- a value is bound to a target -/
noncomputable def Wa (t : Expr) (d : D) (ds : List (Option D)) (μ : Led) (K : List (Option D) → Led → Prop) : Prop :=
  ∀ A h₀ s v, Ok F A h₀ ds μ s → RepT s.heap v d → wpAny (model F.W.prog F.W.w) A (assign t F.e v) (fun _ s' => Pu F h₀ K s s') Nev s
end

/-- operations upon values: the frame is not seen -/
structure Po (h₀ : Heap) (K : D → Led → Prop) (s : Shared) (v : Value) (s' : Shared) : Prop where
  stp : Stp s s'
  keep : Kept h₀ s'.heap
  out : ∃ d μ', K d μ' ∧ Rep s'.heap v d ∧ LedOk h₀ μ' s'.heap
structure Oo (W : GW) (n : Nat) (A : Around) (h₀ : Heap) (μ : Led) (s : Shared) : Prop where
  a : AOk A n
  g : W.Glb h₀
  keep : Kept h₀ s.heap
  led : LedOk h₀ μ s.heap
noncomputable def W1 (W : GW) (n : Nat) (t : Value → Sem Value) (d1 : D) (μ : Led) (K : D → Led → Prop) : Prop :=
  ∀ A h₀ s v1, Oo W n A h₀ μ s → Rep s.heap v1 d1 → wpAny (model W.prog W.w) A (t v1) (Po h₀ K s) Nev s
noncomputable def W2 (W : GW) (n : Nat) (t : Value → Value → Sem Value) (d1 d2 : D) (μ : Led) (K : D → Led → Prop) : Prop :=
  ∀ A h₀ s v1 v2, Oo W n A h₀ μ s → Rep s.heap v1 d1 → Rep s.heap v2 d2 → wpAny (model W.prog W.w) A (t v1 v2) (Po h₀ K s) Nev s
/-- a call of a value -/
noncomputable def Wc (W : GW) (n : Nat) (f : Value) (xs : List D) (μ : Led) (K : D → Led → Prop) : Prop :=
  ∀ A h₀ s vs, Oo W n A h₀ μ s → Reps s.heap vs xs → wpAny (model W.prog W.w) A (call f vs) (Po h₀ K s) Nev s

theorem Ok.op {F : Fm} {A : Around} {h₀ : Heap} {ds : List (Option D)} {μ : Led} {s : Shared} (x : Ok F A h₀ ds μ s) : Oo F.W F.n A (ground s μ) μ s :=
  ⟨x.a, F.W.keeps x.g (base_ground x.st.keep x.st.led), ground_kept s μ, ground_led x.st.led⟩
theorem Ok.back {F : Fm} {A : Around} {h₀ : Heap} {ds : List (Option D)} {μ : Led} {s s' : Shared} {K : D → Led → Prop} {v : Value} (x : Ok F A h₀ ds μ s) (p : Po (ground s μ) K s v s') : Pv F h₀ ds K s v s' :=
  let ⟨d, μ', k, r, l⟩ := p.out
  ⟨p.stp, d, μ', k, r, x.st.call p.stp p.keep l⟩
theorem Pv.after {F : Fm} {h₀ : Heap} {ds : List (Option D)} {K : D → Led → Prop} {s s' s'' : Shared} {v : Value} (q : Stp s s') (p : Pv F h₀ ds K s' v s'') : Pv F h₀ ds K s v s'' := ⟨q.trans p.stp, p.out⟩
theorem Pl.after {F : Fm} {h₀ : Heap} {ds : List (Option D)} {K : List D → Led → Prop} {s s' s'' : Shared} {v : List Value} (q : Stp s s') (p : Pl F h₀ ds K s' v s'') : Pl F h₀ ds K s v s'' := ⟨q.trans p.stp, p.out⟩
theorem Pb.after {F : Fm} {h₀ : Heap} {ds : List (Option D)} {K : Bool → Led → Prop} {s s' s'' : Shared} {v : Bool} (q : Stp s s') (p : Pb F h₀ ds K s' v s'') : Pb F h₀ ds K s v s'' := ⟨q.trans p.stp, p.out⟩
theorem Pf.after {F : Fm} {h₀ : Heap} {K : Flw → List (Option D) → Led → Prop} {s s' s'' : Shared} {v : Flow} (q : Stp s s') (p : Pf F h₀ K s' v s'') : Pf F h₀ K s v s'' := ⟨q.trans p.stp, p.out⟩
theorem Pu.after {F : Fm} {h₀ : Heap} {K : List (Option D) → Led → Prop} {s s' s'' : Shared} (q : Stp s s') (p : Pu F h₀ K s' s'') : Pu F h₀ K s s'' := ⟨q.trans p.stp, p.out⟩
theorem Po.after {h₀ : Heap} {K : D → Led → Prop} {s s' s'' : Shared} {v : Value} (q : Stp s s') (p : Po h₀ K s' v s'') : Po h₀ K s v s'' := ⟨q.trans p.stp, p.keep, p.out⟩

section
variable {F : Fm} {ds : List (Option D)} {μ : Led}
theorem Wp.mono {x : Expr} {K K' : D → Led → Prop} (h : Wp F x ds μ K) (k : ∀ d μ', K d μ' → K' d μ') : Wp F x ds μ K' := fun A h₀ s ok =>
  wpAny_mono (h A h₀ s ok) (fun _ _ p => ⟨p.stp, let ⟨d, μ', q, r⟩ := p.out; ⟨d, μ', k d μ' q, r⟩⟩) fun _ _ x => x
theorem Wt.mono {x : Expr} {K K' : Bool → Led → Prop} (h : Wt F x ds μ K) (k : ∀ d μ', K d μ' → K' d μ') : Wt F x ds μ K' := fun A h₀ s ok =>
  wpAny_mono (h A h₀ s ok) (fun _ _ p => ⟨p.stp, let ⟨μ', q, r⟩ := p.out; ⟨μ', k _ μ' q, r⟩⟩) fun _ _ x => x
theorem Ws.mono {x : List Stmt} {K K' : Flw → List (Option D) → Led → Prop} (h : Ws F x ds μ K) (k : ∀ f d μ', K f d μ' → K' f d μ') : Ws F x ds μ K' := fun A h₀ s ok =>
  wpAny_mono (h A h₀ s ok) (fun _ _ p => ⟨p.stp, let ⟨f, d, μ', q, r⟩ := p.out; ⟨f, d, μ', k _ _ μ' q, r⟩⟩) fun _ _ x => x
theorem We.mono {x : Stmt} {K K' : Flw → List (Option D) → Led → Prop} (h : We F x ds μ K) (k : ∀ f d μ', K f d μ' → K' f d μ') : We F x ds μ K' := fun A h₀ s ok =>
  wpAny_mono (h A h₀ s ok) (fun _ _ p => ⟨p.stp, let ⟨f, d, μ', q, r⟩ := p.out; ⟨f, d, μ', k _ _ μ' q, r⟩⟩) fun _ _ x => x
theorem Wc.mono {W : GW} {n : Nat} {f : Value} {xs : List D} {K K' : D → Led → Prop} (h : Wc W n f xs μ K) (k : ∀ d μ', K d μ' → K' d μ') : Wc W n f xs μ K' := fun A h₀ s vs ok r =>
  wpAny_mono (h A h₀ s vs ok r) (fun _ _ p => ⟨p.stp, p.keep, let ⟨d, μ', q, r⟩ := p.out; ⟨d, μ', k d μ' q, r⟩⟩) fun _ _ x => x
end

theorem wpA {α : Type} {M : Model} {A : Around} {t : Sem α} {Q Q' : α → Shared → Prop} {s : Shared} (h : wpAny M A t Q Nev s) (k : ∀ a s', Q a s' → Q' a s') {E : Value → Shared → Prop} : wpAny M A t Q' E s :=
  wpAny_mono h k fun _ _ x => x.elim
/-! the ends, taken apart with no motive -/
theorem Pv.el {F : Fm} {h₀ : Heap} {ds : List (Option D)} {K : D → Led → Prop} {s s' : Shared} {v : Value} {G : Prop} (p : Pv F h₀ ds K s v s') (k : Stp s s' → ∀ d μ', K d μ' → Rep s'.heap v d → St h₀ F.e F.ns ds μ' s' → G) : G :=
  let ⟨a, d, μ', b, c, e⟩ := p; k a d μ' b c e
theorem Pl.el {F : Fm} {h₀ : Heap} {ds : List (Option D)} {K : List D → Led → Prop} {s s' : Shared} {v : List Value} {G : Prop} (p : Pl F h₀ ds K s v s') (k : Stp s s' → ∀ d μ', K d μ' → Reps s'.heap v d → St h₀ F.e F.ns ds μ' s' → G) : G :=
  let ⟨a, d, μ', b, c, e⟩ := p; k a d μ' b c e
theorem Pb.el {F : Fm} {h₀ : Heap} {ds : List (Option D)} {K : Bool → Led → Prop} {s s' : Shared} {b : Bool} {G : Prop} (p : Pb F h₀ ds K s b s') (k : Stp s s' → ∀ μ', K b μ' → St h₀ F.e F.ns ds μ' s' → G) : G :=
  let ⟨a, μ', b, c⟩ := p; k a μ' b c
theorem Pu.el {F : Fm} {h₀ : Heap} {K : List (Option D) → Led → Prop} {s s' : Shared} {G : Prop} (p : Pu F h₀ K s s') (k : Stp s s' → ∀ ds' μ', K ds' μ' → St h₀ F.e F.ns ds' μ' s' → G) : G :=
  let ⟨a, d, μ', b, c⟩ := p; k a d μ' b c
theorem Pf.el {F : Fm} {h₀ : Heap} {K : Flw → List (Option D) → Led → Prop} {s s' : Shared} {f : Flow} {G : Prop} (p : Pf F h₀ K s f s') (k : Stp s s' → ∀ g ds' μ', K g ds' μ' → FRep s'.heap f g → St h₀ F.e F.ns ds' μ' s' → G) : G :=
  let ⟨a, g, ds', μ', b, c, e⟩ := p; k a g ds' μ' b c e
theorem Po.el {h₀ : Heap} {K : D → Led → Prop} {s s' : Shared} {v : Value} {G : Prop} (p : Po h₀ K s v s') (k : Stp s s' → Kept h₀ s'.heap → ∀ d μ', K d μ' → Rep s'.heap v d → LedOk h₀ μ' s'.heap → G) : G :=
  let ⟨a, b, d, μ', c, e, f⟩ := p; k a b d μ' c e f
end Mine

namespace Mine
open PySem PySem.Calls
/-! continuations by name: no binder, so that the terms stay small -/
noncomputable abbrev kW2 (F : Fm) (t : Value → Value → Sem Value) (d1 : D) (K : D → Led → Prop) : D → Led → Prop := fun d2 μ2 => W2 F.W F.n t d1 d2 μ2 K
noncomputable abbrev kR (F : Fm) (r : Expr) (t : Value → Value → Sem Value) (ds : List (Option D)) (K : D → Led → Prop) : D → Led → Prop := fun d1 μ1 => Wp F r ds μ1 (kW2 F t d1 K)
noncomputable abbrev kB (K : Bool → Led → Prop) : D → Led → Prop := fun d μ3 => ∃ b, d = .bool b ∧ K b μ3
theorem kB.go {K : Bool → Led → Prop} {b : Bool} {μ : Led} (k : K b μ) : kB K (.bool b) μ := ⟨b, rfl, k⟩
noncomputable abbrev kNot (K : Bool → Led → Prop) : Bool → Led → Prop := fun b μ' => K (!b) μ'
noncomputable abbrev kAnd (F : Fm) (y : Expr) (ds : List (Option D)) (K : Bool → Led → Prop) : Bool → Led → Prop := fun b μ' => if b then Wt F y ds μ' K else K false μ'
noncomputable abbrev kOr (F : Fm) (y : Expr) (ds : List (Option D)) (K : Bool → Led → Prop) : Bool → Led → Prop := fun b μ' => if b then K true μ' else Wt F y ds μ' K
noncomputable abbrev kC2 (F : Fm) (r₂ : Expr) (t : Value → Value → Sem Value) (ds : List (Option D)) (d2 : D) (K : Bool → Led → Prop) : Bool → Led → Prop := fun b μ3 => if b then Wp F r₂ ds μ3 (kW2 F t d2 (kB K)) else K false μ3
noncomputable abbrev kC1 (F : Fm) (t t₂ : Value → Value → Sem Value) (d1 : D) (r₂ : Expr) (ds : List (Option D)) (K : Bool → Led → Prop) : D → Led → Prop := fun d2 μ2 => W2 F.W F.n t d1 d2 μ2 (kB (kC2 F r₂ t₂ ds d2 K))
noncomputable abbrev kC0 (F : Fm) (r₁ : Expr) (t t₂ : Value → Value → Sem Value) (r₂ : Expr) (ds : List (Option D)) (K : Bool → Led → Prop) : D → Led → Prop := fun d1 μ1 => Wp F r₁ ds μ1 (kC1 F t t₂ d1 r₂ ds K)
noncomputable abbrev kIf (F : Fm) (a b : Expr) (ds : List (Option D)) (K : D → Led → Prop) : Bool → Led → Prop := fun c μ' => if c then Wp F a ds μ' K else Wp F b ds μ' K
noncomputable abbrev kNeg (F : Fm) (K : D → Led → Prop) : D → Led → Prop := fun d μ' => W1 F.W F.n (unaryOp .USub) d μ' K
noncomputable abbrev kCons2 (d : D) (K : List D → Led → Prop) : List D → Led → Prop := fun ys μ'' => K (d :: ys) μ''
noncomputable abbrev kCons (F : Fm) (p : Pos) (xs : List Expr) (ds : List (Option D)) (K : List D → Led → Prop) : D → Led → Prop := fun d μ' => Wl F p xs ds μ' (kCons2 d K)
noncomputable abbrev kTup (K : D → Led → Prop) : List D → Led → Prop := fun ys μ' => (ys.length ≤ sizeLine ∧ ys.all flatD = true) ∧ K (.tup ys) μ'
noncomputable abbrev kCall (F : Fm) (v : Value) (K : D → Led → Prop) : List D → Led → Prop := fun ys μ2 => Wc F.W F.n v ys μ2 K

section
variable {F : Fm} {ds : List (Option D)} {μ : Led} {K : D → Led → Prop}

theorem Pv.here {A : Around} {h₀ : Heap} {s : Shared} {v : Value} {d : D} (ok : Ok F A h₀ ds μ s) (k : K d μ) (r : Rep s.heap v d) : Pv F h₀ ds K s v s := ⟨.refl s, d, μ, k, r, ok.st⟩
theorem Pv.tok {A : Around} {h₀ : Heap} {s : Shared} {v : Value} {d : D} {tk : Nat} (ok : Ok F A h₀ ds μ s) (k : K d μ) (r : Rep s.heap v d) : Pv F h₀ ds K s v { s with toks := tk } :=
  ⟨⟨⟨s.heap, tk, rfl⟩, .refl _⟩, d, μ, k, r, ok.st.tok tk⟩

/-! names -/
theorem Wp.name {x : Str} {p : Pos} {d : D} (hx : Has F.ns ds x d) (k : K d μ) : Wp F (.Name x p) ds μ K := fun A h₀ s ok => by
  obtain ⟨hd, hk⟩ := ok.e.loc x hx.mem
  rcases hk with hl | ⟨hc, c, hcc⟩
  · obtain ⟨m, hm, hv⟩ := ok.st.loc
    obtain ⟨v, e1, e2⟩ := hv x d hx hl
    exact wpAny_Name (wpAny_loadName_local ok.e.kind hl hm e1 (Pv.here ok k e2)) hd
  · obtain ⟨w, h1, h2, _⟩ := ok.st.cel x c hx.mem hc hcc
    obtain ⟨v, rfl, e2⟩ := h2 d hx
    exact wpAny_Name (wpAny_loadName_cell ok.e.kind hc hcc h1 (Pv.here ok k e2)) hd
theorem Wp.glob {x : Str} {p : Pos} {d : D} (hx : (x, d) ∈ F.gs) (k : K d μ) : Wp F (.Name x p) ds μ K := fun A h₀ s ok => by
  obtain ⟨hd, hk, v, hv, hr⟩ := ok.e.gl _ hx
  have G := F.W.keeps ok.g ok.st.keep
  have hg : s.heap.Ns F.e.globals F.W.mg := by rw [ok.e.glob]; exact F.W.g G
  rcases hv with hv | ⟨h1, h2⟩
  · exact Name_function_global ok.e.kind hk (loadGlobal_global hg hv (Pv.here ok k (hr _ G))) hd
  · exact Name_function_global ok.e.kind hk (loadGlobal_builtin hg h1 (by rw [ok.e.bui]; exact F.W.b G) h2 (Pv.here ok k (hr _ G))) hd

/-! constants -/
theorem Wp.int {i : Int} {q : Nat} {p : Pos} (k : K (.int i) μ) : Wp F (.Constant (.int i) q p) ds μ K := fun _ _ _ ok => wpAny_Constant_int (Pv.tok ok k (.int _ _))
theorem Wp.str {x : Str} {q : Nat} {p : Pos} (k : K (.str x) μ) : Wp F (.Constant (.str x) q p) ds μ K := fun _ _ _ ok => wpAny_Constant_str (Pv.tok ok k (.str _ _))
theorem Wp.bytes {x : List UInt8} {q : Nat} {p : Pos} (k : K (.bytes x) μ) : Wp F (.Constant (.bytes x) q p) ds μ K := fun _ _ _ ok => W.Constant_bytes (Pv.tok ok k (.bytes _ _))
theorem Wp.bool {b : Bool} {q : Nat} {p : Pos} (k : K (.bool b) μ) : Wp F (.Constant (.bool b) q p) ds μ K := fun _ _ _ ok => wpAny_Constant_bool (Pv.here ok k (.val _))

/-! operations -/
theorem Wp.op2 {A : Around} {h₀ : Heap} {s s₁ s₂ : Shared} {v1 v2 : Value} {d1 d2 : D} {μ2 : Led} {t : Value → Value → Sem Value} {ok : Ok F A h₀ ds μ s}
    (st1 : Stp s s₁) (r1 : Rep s₁.heap v1 d1) (st2 : Stp s₁ s₂) (r2 : Rep s₂.heap v2 d2) (S2 : St h₀ F.e F.ns ds μ2 s₂) (h : W2 F.W F.n t d1 d2 μ2 K) :
    wpAny (model F.W.prog F.W.w) A (t v1 v2) (Pv F h₀ ds K s) Nev s₂ :=
  have ok2 := ok.to S2
  wpA (h A _ s₂ v1 v2 ok2.op (r1.mono st2.tup) r2) fun _ _ p => (ok2.back p).after (st1.trans st2)
theorem Wp.binop {l r : Expr} {op : Operator} {p : Pos} (h : Wp F l ds μ (kR F r (binaryOp op) ds K)) : Wp F (.BinOp l op r p) ds μ K :=
  fun A h₀ s ok => wpAny_BinOp (wpA (h A h₀ s ok) fun _ s₁ p1 => by
    refine p1.el fun st1 d1 μ1 k1 r1 S1 => ?_
    exact wpA (k1 A h₀ s₁ (ok.to S1)) fun _ s₂ p2 => by
      refine p2.el fun st2 d2 μ2 k2 r2 S2 => ?_
      exact Wp.op2 (ok := ok) st1 r1 st2 r2 S2 k2)
theorem Wp.cmp {l r : Expr} {op : CmpOp} {p : Pos} (hm : behindInMarks op r = false) (h : Wp F l ds μ (kR F r (compareOp op) ds K)) : Wp F (.Compare l [op] [r] p) ds μ K :=
  fun A h₀ s ok => wpAny_Compare1 (wpA (h A h₀ s ok) fun _ s₁ p1 => by
    refine p1.el fun st1 d1 μ1 k1 r1 S1 => ?_
    exact wpA (k1 A h₀ s₁ (ok.to S1)) fun _ s₂ p2 => by
      refine p2.el fun st2 d2 μ2 k2 r2 S2 => ?_
      exact Wp.op2 (ok := ok) st1 r1 st2 r2 S2 k2) hm

/-! truth -/
theorem Pv.bool {h₀ : Heap} {s s' : Shared} {v : Value} {KB : Bool → Led → Prop} (p : Pv F h₀ ds (fun d μ' => ∃ b, d = .bool b ∧ KB b μ') s v s') : ∃ b, v = .bool b ∧ Pb F h₀ ds KB s b s' := by
  refine p.el fun st d μ' hk3 r S => ?_
  obtain ⟨b, rfl, k⟩ := hk3
  cases r
  exact ⟨b, rfl, st, μ', k, S⟩
theorem Wt.cmp {l r : Expr} {op : CmpOp} {p : Pos} {K : Bool → Led → Prop} (hm : behindInMarks op r = false)
    (h : Wp F l ds μ (kR F r (compareOp op) ds (kB K))) : Wt F (.Compare l [op] [r] p) ds μ K :=
  fun A h₀ s ok => wpAny_isTrue_Compare1 (wpA (h A h₀ s ok) fun _ s₁ p1 => by
    refine p1.el fun st1 d1 μ1 k1 r1 S1 => ?_
    exact wpA (k1 A h₀ s₁ (ok.to S1)) fun _ s₂ p2 => by
      refine p2.el fun st2 d2 μ2 k2 r2 S2 => ?_
      refine wpAny_mono (Wp.op2 (ok := ok) st1 r1 st2 r2 S2 k2) (fun _ _ p => ?_) fun _ _ x => x
      obtain ⟨b, rfl, pb⟩ := p.bool
      exact wpAny_truthy_bool pb) hm
theorem Wt.not {x : Expr} {p : Pos} {K : Bool → Led → Prop} (h : Wt F x ds μ (kNot K)) : Wt F (.UnaryOp .Not x p) ds μ K :=
  fun A h₀ s ok => wpAny_isTrue_Not (wpA (h A h₀ s ok) fun _ _ q => ⟨q.stp, q.out⟩)
/-- a value that is a bool -/
theorem Wt.of {x : Expr} {K : Bool → Led → Prop} (he : ∀ (env : Env) (whole : Sem Value), isTrue x env whole = (do let v ← whole; standAt x.pos; holding [v] (truthy v)))
    (h : Wp F x ds μ (kB K)) : Wt F x ds μ K :=
  fun A h₀ s ok => wpAny_isTrue_value (wpA (h A h₀ s ok) fun _ _ p => by
    obtain ⟨b, rfl, pb⟩ := p.bool
    exact wpAny_truthy_bool pb) (he _ _)
theorem Wt.and {x y : Expr} {p : Pos} {K : Bool → Led → Prop} (h : Wt F x ds μ (kAnd F y ds K)) : Wt F (.BoolOp .And [x, y] p) ds μ K :=
  fun A h₀ s ok => wpAny_isTrue_BoolOp (wpAny_allTrue_And_cons (wpA (h A h₀ s ok) fun b s₁ p1 => by
    refine p1.el fun st1 μ1 k1 S1 => ?_
    cases b with
    | false => exact ⟨st1, μ1, k1, S1⟩
    | true =>
      refine wpAny_allTrue_And_cons (wpA (k1 A h₀ s₁ (ok.to S1)) fun b' s₂ p2 => ?_)
      have p2 := p2.after st1
      cases b' with
      | false => exact p2
      | true => exact wpAny_allTrue_And_nil p2))
theorem Wt.or {x y : Expr} {p : Pos} {K : Bool → Led → Prop} (h : Wt F x ds μ (kOr F y ds K)) : Wt F (.BoolOp .Or [x, y] p) ds μ K :=
  fun A h₀ s ok => wpAny_isTrue_BoolOp (wpAny_allTrue_Or_cons (wpA (h A h₀ s ok) fun b s₁ p1 => by
    refine p1.el fun st1 μ1 k1 S1 => ?_
    cases b with
    | true => exact ⟨st1, μ1, k1, S1⟩
    | false =>
      refine wpAny_allTrue_Or_cons (wpA (k1 A h₀ s₁ (ok.to S1)) fun b' s₂ p2 => ?_)
      have p2 := p2.after st1
      cases b' with
      | true => exact p2
      | false => exact wpAny_allTrue_Or_nil p2))
theorem Wt.or3 {x y z : Expr} {p : Pos} {K : Bool → Led → Prop} (h : Wt F x ds μ (kOr F (.BoolOp .Or [y, z] p) ds K)) : Wt F (.BoolOp .Or [x, y, z] p) ds μ K :=
  fun A h₀ s ok => wpAny_isTrue_BoolOp (wpAny_allTrue_Or_cons (wpA (h A h₀ s ok) fun b s₁ p1 => by
    refine p1.el fun st1 μ1 k1 S1 => ?_
    cases b with
    | true => exact ⟨st1, μ1, k1, S1⟩
    | false => exact wpA (k1 A h₀ s₁ (ok.to S1)) fun b' s₂ p2 => p2.after st1))
/-- a chain of two comparisons -/
theorem Wt.cmp2 {l r₁ r₂ : Expr} {op₁ op₂ : CmpOp} {p : Pos} {K : Bool → Led → Prop} (hm : lastMarks [op₁, op₂] [r₁, r₂] = false)
    (h : Wp F l ds μ (kC0 F r₁ (compareOp op₁) (compareOp op₂) r₂ ds K)) : Wt F (.Compare l [op₁, op₂] [r₁, r₂] p) ds μ K :=
  fun A h₀ s ok => PyProof.Rows.isTrue_chain (wpA (h A h₀ s ok) fun _ s₁ p1 => by
    refine p1.el fun st1 d1 μ1 k1 r1 S1 => ?_
    refine PyProof.Rows.test_link (wpA (k1 A h₀ s₁ (ok.to S1)) fun _ s₂ p2 => ?_)
    refine p2.el fun st2 d2 μ2 k2 r2 S2 => ?_
    have ok2 := ok.to S2
    refine wpA (k2 A _ s₂ _ _ ok2.op (r1.mono st2.tup) r2) fun _ s₃ p3 => ?_
    have p3 := ok2.back p3
    refine p3.el fun st3 d μ3 hk3 r3 S3 => ?_
    obtain ⟨b, rfl, k3⟩ := hk3
    cases r3
    refine wpAny_truthy_bool ?_
    have st13 := (st1.trans st2).trans st3
    cases b with
    | false => exact ⟨st13, μ3, k3, S3⟩
    | true =>
      refine PyProof.Rows.test_last (wpA (k3 A h₀ s₃ (ok.to S3)) fun _ s₄ p4 => ?_)
      refine p4.el fun st4 d3 μ4 k4 r4 S4 => ?_
      have ok4 := ok.to S4
      refine wpA (k4 A _ s₄ _ _ ok4.op (r2.mono (st3.tup.trans st4.tup)) r4) fun _ s₅ p5 => ?_
      obtain ⟨b, rfl, pb⟩ := ((ok4.back p5).after (st13.trans st4)).bool
      exact wpAny_truthy_bool pb) hm
theorem Wp.ifexp {t a b : Expr} {p : Pos} (h : Wt F t ds μ (kIf F a b ds K)) : Wp F (.IfExp t a b p) ds μ K :=
  fun A h₀ s ok => wpAny_IfExp (wpA (h A h₀ s ok) fun c s₁ p1 => by
    refine p1.el fun st1 μ1 k1 S1 => ?_
    cases c with
    | false => exact wpA (k1 A h₀ s₁ (ok.to S1)) fun _ _ p => p.after st1
    | true => exact wpA (k1 A h₀ s₁ (ok.to S1)) fun _ _ p => p.after st1)
theorem Wp.neg {x : Expr} {p : Pos} (h : Wp F x ds μ (kNeg F K)) : Wp F (.UnaryOp .USub x p) ds μ K :=
  fun A h₀ s ok => wpAny_UnaryOp (wpA (h A h₀ s ok) fun _ s₁ p1 => by
    refine p1.el fun st1 d1 μ1 k1 r1 S1 => ?_
    have ok1 := ok.to S1
    exact wpA (k1 A _ s₁ _ ok1.op r1) fun _ _ p => (ok1.back p).after st1)

/-! lists of expressions -/
theorem Wl.nil {p : Pos} {K : List D → Led → Prop} (k : K [] μ) : Wl F p [] ds μ K := fun _ _ s ok => wpAny_items_nil ⟨.refl s, [], μ, k, .nil, ok.st⟩
theorem Wl.cons {p : Pos} {x : Expr} {xs : List Expr} {K : List D → Led → Prop} (he : ∀ e, starEach (x :: xs) e = (false, eval x e) :: starEach xs e)
    (h : Wp F x ds μ (kCons F p xs ds K)) : Wl F p (x :: xs) ds μ K :=
  fun A h₀ s ok => wpAny_items_cons (wpA (h A h₀ s ok) fun _ s₁ p1 => by
    refine p1.el fun st1 d1 μ1 k1 r1 S1 => ?_
    exact wpA (k1 A h₀ s₁ (ok.to S1)) fun _ s₂ p2 => by
      refine p2.el fun st2 ys μ2 k2 r2 S2 => ?_
      exact ⟨st1.trans st2, d1 :: ys, μ2, k2, .cons (r1.mono st2.tup) r2, S2⟩) (he _)

theorem fresh_led {h₀ : Heap} {μ : Led} {s : Shared} (l : LedOk h₀ μ s.heap) : μ s.heap.objs.size = none := by
  cases q : μ s.heap.objs.size with
  | none => rfl
  | some ds =>
    obtain ⟨o, _, _, e, _⟩ := l.lst _ _ q
    exact absurd (Heap.lt_size e) (Nat.lt_irrefl _)
theorem fresh_base {h₀ : Heap} {s : Shared} (k : Kept h₀ s.heap) : h₀.get? s.heap.objs.size = none := by
  cases q : h₀.get? s.heap.objs.size with
  | none => rfl
  | some o => exact absurd (Heap.lt_size (k _ _ q)) (Nat.lt_irrefl _)
theorem Kept.push (h : Heap) (o : Obj) : Kept h (h.push o) := fun _ _ e => Heap.get?_push_of_some _ e
/-- a new list enters the ledger -/
theorem St.list {h₀ : Heap} {e : Env} {ns : List Str} {s : Shared} (x : St h₀ e ns ds μ s) {h : Heap} {a : Addr} {tk : Nat} {xs : List D} (k : Kept s.heap h) (hn : s.heap.get? a = none) (hl : LstAt h a xs) :
    St h₀ e ns ds (upd μ a xs) { s with heap := h, toks := tk } :=
  { x.kept (h := h) (tk := tk) k with
    led := ⟨fun b ys q => by
      by_cases hb : b = a
      · subst hb; rw [upd_same] at q; cases q; exact hl
      · rw [upd_ne μ xs hb] at q; exact (x.led.lst b ys q).kept k, fun b ys q => by
      by_cases hb : b = a
      · subst hb
        cases q' : h₀.get? b with
        | none => rfl
        | some o => have := x.keep b o q'; rw [hn] at this; cases this
      · rw [upd_ne μ xs hb] at q; exact x.led.new b ys q⟩ }
theorem LedOk.list {h₀ : Heap} {s : Shared} (kb : Kept h₀ s.heap) (x : LedOk h₀ μ s.heap) {h : Heap} {a : Addr} {xs : List D} (k : Kept s.heap h) (hn : s.heap.get? a = none) (hl : LstAt h a xs) : LedOk h₀ (upd μ a xs) h :=
  ⟨fun b ys q => by
      by_cases hb : b = a
      · subst hb; rw [upd_same] at q; cases q; exact hl
      · rw [upd_ne μ xs hb] at q; exact (x.lst b ys q).kept k, fun b ys q => by
      by_cases hb : b = a
      · subst hb
        cases q' : h₀.get? b with
        | none => rfl
        | some o => have := kb b o q'; rw [hn] at this; cases this
      · rw [upd_ne μ xs hb] at q; exact x.new b ys q⟩
theorem get_size (h : Heap) : h.get? h.objs.size = none := Heap.get?_none_of_le (Nat.le_refl _)
theorem led_none_of_get {h₀ h : Heap} {a : Addr} (l : LedOk h₀ μ h) (e : h.get? a = none) : μ a = none := by
  cases q : μ a with
  | none => rfl
  | some ds =>
    obtain ⟨o, _, _, ho, _⟩ := l.lst _ _ q
    rw [e] at ho; cases ho

theorem Wp.tuple {xs : List Expr} {q : Nat} {p : Pos} (h : Wl F p xs ds μ (kTup K)) : Wp F (.Tuple xs q p) ds μ K :=
  fun A h₀ s ok => wpAny_Tuple (wpA (h A h₀ s ok) fun vs s₁ p1 => by
    refine p1.el fun st1 ys μ1 hk3 r1 S1 => ?_
    obtain ⟨⟨hz, hf⟩, k1⟩ := hk3
    refine ⟨by rw [r1.length]; exact hz, st1.trans (Stp.kept (tk := s₁.toks) (Kept.push _ _)), .tup ys, μ1, k1, ?_, S1.kept (Kept.push _ _)⟩
    exact .tup (Heap.get?_push_size _ rfl) rfl rfl (by simpa using r1.flat hf) (by simpa using r1.mono (Kept.push _ _).tup))
theorem Wp.list {xs : List Expr} {p : Pos} (h : Wl F p xs ds μ fun ys μ' => ys.length ≤ sizeLine ∧ ∀ a, μ' a = none → K (.ref a) (upd μ' a ys)) : Wp F (.List xs p) ds μ K :=
  fun A h₀ s ok => wpAny_List (wpA (h A h₀ s ok) fun vs s₁ p1 => by
    refine p1.el fun st1 ys μ1 hk3 r1 S1 => ?_
    obtain ⟨hz, k1⟩ := hk3
    refine ⟨by rw [r1.length]; exact hz, st1.trans (Stp.kept (tk := s₁.toks) (Kept.push _ _)), .ref _, _, k1 s₁.heap.objs.size (fresh_led S1.led), .val _, ?_⟩
    exact S1.list (Kept.push _ _) (get_size _) ⟨_, _, _, Heap.get?_push_size _ rfl, rfl, rfl, rfl, by simpa using r1.mono (Kept.push _ _).tup⟩)

/-! calls -/
theorem evalArgs_all {M : Model} {A : Around} {E : Value → Shared → Prop} {s : Shared} {f : Value} {args : List (Bool × Sem Value)} {Q : Args → Shared → Prop} (hp : args.any (·.1) = false)
    (h : wpAny M A (spliced args) (fun vs s' => Q ⟨vs, []⟩ s') E s) : wpAny M A (evalArgs f true args []) Q E s := by
  cases args with
  | nil =>
    unfold evalArgs
    show wpAny M A (spliced [] >>= _) Q E s
    refine wpAny_bind (wpAny_mono h (fun vs s' h' => ?_) fun _ _ x => x)
    refine wpAny_bind (wpAny_pure ?_)
    refine wpAny_holding ?_
    exact wpAny_bind (wpAny_pure (wpAny_bind (wpAny_pure (wpAny_pure (by simpa using h')))))
  | cons a r =>
    obtain ⟨b, t⟩ := a
    cases b with
    | true => simp at hp
    | false => exact evalArgs_plain h
/-- what is called -/
inductive Callee (W : GW) : Value → Prop
  | bi (id : String) : Callee W (.builtin id)
  | ty (T : String) : Callee W (.type T)
  | fn {a : Addr} {fd : FuncData} (h : ∀ g, W.Glb g → ∃ o, g.get? a = some o ∧ o.data = .func fd) : Callee W (.ref a)
theorem callWith_any {A : Around} {E : Value → Shared → Prop} {s : Shared} {W : GW} {pos : Pos} {f : Value} {first : List Value} {args : List (Bool × Sem Value)} {Q : Value → Shared → Prop} (hf : Callee W f)
    (hp : args.any (·.1) = false) (h : wpAny (model W.prog W.w) A (spliced args) (fun vs s₁ => W.Glb s₁.heap ∧ wpAny (model W.prog W.w) A (call f (first ++ vs)) Q E s₁) E s) :
    wpAny (model W.prog W.w) A (callWith pos f first args []) Q E s := by
  cases hf with
  | bi id => exact callWith_builtin hp (evalArgs_all hp (wpAny_mono h (fun _ _ q => q.2) fun _ _ x => x))
  | ty T => exact callWith_type hp (evalArgs_all hp (wpAny_mono h (fun _ _ q => q.2) fun _ _ x => x))
  | @fn a fd hfn =>
    unfold callWith
    refine wpAny_bind (wpAny_holding (wpAny_mono (evalArgs_all (Q := fun x s₁ => W.Glb s₁.heap ∧ wpAny (model W.prog W.w) A (call (.ref a) (first ++ x.pos) x.kw) Q E s₁) hp h) (fun x s₁ h₁ => wpAny_bind (wpAny_standAt ?_)) fun _ _ x => x))
    · obtain ⟨o, e1, e2⟩ := hfn _ h₁.1
      have tail : ∀ {t : Sem Value}, wpAny (model W.prog W.w) A t Q E s₁ → wpAny (model W.prog W.w) A (t >>= fun r => holding [r] point >>= fun _ => pure r) Q E s₁ :=
        fun ht => wpAny_bind (wpAny_mono ht (fun r s₂ hr => wpAny_bind (wpAny_holding (wpAny_point (wpAny_pure hr)))) fun _ _ x => x)
      simp only [hp, List.any_nil, Bool.or_false]
      refine wpAny_bind (m := keeperOf (.ref a)) ?_
      unfold keeperOf
      refine wpAny_bind (wpAny_load e1 ?_)
      rw [e2]
      refine wpAny_pure ?_
      first
        | refine wpAny_ite ?_
        | skip
      split <;> first
        | exact tail h₁.2
        | exact tail (by unfold callMarked; exact Calls.wpAny_keep h₁.2)
theorem backTo_plain {p : Pos} {xs : List (Bool × Sem Value)} : (backTo p xs).any (·.1) = xs.any (·.1) := by
  unfold backTo
  rw [List.any_map]; rfl
noncomputable abbrev kFn (F : Fm) (p : Pos) (xs : List Expr) (ds : List (Option D)) (K : D → Led → Prop) : D → Led → Prop := fun d μ1 => ∃ v, d = .val v ∧ Callee F.W v ∧ Wl F p xs ds μ1 (kCall F v K)
/-- a call by a name -/
theorem Wp.call {f : Expr} {xs : List Expr} {p : Pos} (hnm : ∀ e, eval (.Call f xs [] p) e = (do callWith p (← eval f e) [] (backTo p (starEach xs e)) [])) (hp : ∀ e, (starEach xs e).any (·.1) = false)
    (h : Wp F f ds μ (kFn F p xs ds K)) : Wp F (.Call f xs [] p) ds μ K :=
  fun A h₀ s ok => by
    rw [hnm]
    refine wpAny_bind (wpA (h A h₀ s ok) fun v s₁ p1 => ?_)
    refine p1.el fun st1 d μ1 hk3 r1 S1 => ?_
    obtain ⟨v, rfl, hc, k1⟩ := hk3
    cases r1
    have ok1 := ok.to S1
    refine callWith_any hc (backTo_plain.trans (hp _)) (wpA (k1 A h₀ s₁ ok1) fun vs s₂ p2 => ?_)
    refine p2.el fun st2 ys μ2 k2 r2 S2 => ?_
    have ok2 := ok.to S2
    refine ⟨F.W.keeps ok.g S2.keep, wpA (k2 A _ s₂ _ ok2.op r2) fun _ _ p => (ok2.back p).after (st1.trans st2)⟩
/-- what a method is asked of -/
structure Meth (T : String) (name : Str) (id : String) : Prop where
  pa : PlainAttrs T
  slot : Slot T name id
  ty : typeOf (.builtin id) = pure (.type "method_descriptor")
/-- the type of data -/
inductive Ty (μ : Led) : D → String → Prop
  | bytes (b : List UInt8) : Ty μ (.bytes b) "bytes"
  | str (x : Str) : Ty μ (.str x) "str"
  | int (i : Int) : Ty μ (.int i) "int"
  | tup (ds : List D) : Ty μ (.tup ds) "tuple"
  | list {a : Addr} {ds : List D} (h : μ a = some ds) : Ty μ (.ref a) "list"
theorem Ty.is {h₀ : Heap} {s : Shared} {d : D} {T : String} {v : Value} (t : Ty μ d T) (l : LedOk h₀ μ s.heap) (r : Rep s.heap v d) : s.TypeIs v T := by
  cases t with
  | bytes => cases r; rfl
  | str => cases r; rfl
  | int => cases r; rfl
  | tup => cases r with | tup ho hc hd _ _ => exact ⟨_, ho, hc⟩
  | list h =>
    cases r
    obtain ⟨o, _, _, ho, hc, _⟩ := l.lst _ _ h
    exact ⟨o, ho, hc⟩
theorem Ty.dict {h₀ : Heap} {s : Shared} {d : D} {T : String} {v : Value} (t : Ty μ d T) (hn : ∀ ds, d ≠ .tup ds) (l : LedOk h₀ μ s.heap) (r : Rep s.heap v d) : ∀ a, v = .ref a → ∃ o, s.heap.get? a = some o ∧ o.dict = none := by
  intro a e
  subst e
  cases t with
  | bytes => cases r
  | str => cases r
  | int => cases r
  | tup ds => exact absurd rfl (hn ds)
  | list h =>
    cases r
    obtain ⟨o, _, _, ho, _, hd, _⟩ := l.lst _ _ h
    exact ⟨o, ho, hd⟩
theorem Wp.meth {o : Expr} {name : Str} {apos p : Pos} {xs : List Expr} {id : String}
    (hb : ∀ e, attributeBase o name e (eval o e) = eval o e) (hl : (apos.endLine == p.line) = true) (hlen : decide (xs.length + ([] : List Keyword).length + (if ([] : List Keyword).isEmpty then 0 else 1) < 30) = true)
    (hp : ∀ e, (starEach xs e).any (·.1) = false)
    (h : Wp F o ds μ fun d μ1 => ∃ T, Ty μ1 d T ∧ (∀ ds, d ≠ .tup ds) ∧ Meth T name id ∧ Wl F p xs ds μ1 (kCons2 d (kCall F (.builtin id) K))) : Wp F (.Call (.Attribute o name apos) xs [] p) ds μ K :=
  fun A h₀ s ok => by
    rw [arm_eval_Call, hb]
    refine wpAny_bind (wpA (h A h₀ s ok) fun ov s₁ p1 => ?_)
    refine p1.el fun st1 d μ1 hk3 r1 S1 => ?_
    obtain ⟨T, hT, hnt, hm, k1⟩ := hk3
    have hplain : (backTo p (starEach xs F.e)).any (·.1) = false := backTo_plain.trans (hp _)
    refine wpAny_bind (wpAny_standAt ?_)
    have hform : methodCallForm (xs.length + ([] : List Keyword).length) (backTo p (starEach xs F.e)) (backToKw p (keywordEach [] F.e)) = true := by
      unfold methodCallForm
      simp only [Bool.and_eq_true]
      refine ⟨⟨?_, rfl⟩, hlen⟩
      rw [List.all_eq_not_any_not]
      simpa using hplain
    have hpos : methodCallPos true o F.e apos p = pure p := by unfold methodCallPos; simp [hl]
    unfold methodCall
    rw [hform]
    have ok1 := ok.to S1
    refine wpAny_bind (wpAny_holding (getMethod_builtin (hT.is S1.led r1) hm.pa hm.slot hm.ty (hT.dict hnt S1.led r1) ?_))
    refine wpAny_bind (wpAny_of_eq hpos ?_)
    refine callWith_any (.bi id) hplain (wpA (k1 A h₀ s₁ ok1) fun vs s₂ p2 => ?_)
    refine p2.el fun st2 ys μ2 k2 r2 S2 => ?_
    have ok2 := ok.to S2
    exact ⟨F.W.keeps ok.g S2.keep, wpA (k2 A _ s₂ _ ok2.op (.cons (r1.mono st2.tup) r2)) fun _ _ p => (ok2.back p).after (st1.trans st2)⟩
end
end Mine

namespace Mine
open PySem PySem.Calls
/-! ## Operations upon values -/
section
variable {W : GW} {n : Nat} {μ : Led} {K : D → Led → Prop}

theorem Po.tok {A : Around} {h₀ : Heap} {s : Shared} {v : Value} {d : D} {tk : Nat} (o : Oo W n A h₀ μ s) (k : K d μ) (r : Rep s.heap v d) : Po h₀ K s v { s with toks := tk } :=
  ⟨⟨⟨s.heap, tk, rfl⟩, .refl _⟩, o.keep, d, μ, k, r, o.led⟩
theorem Po.here {A : Around} {h₀ : Heap} {s : Shared} {v : Value} {d : D} (o : Oo W n A h₀ μ s) (k : K d μ) (r : Rep s.heap v d) : Po h₀ K s v s := ⟨.refl s, o.keep, d, μ, k, r, o.led⟩
theorem Po.kept {A : Around} {h₀ : Heap} {s : Shared} {v : Value} {d : D} {h : Heap} {tk : Nat} (o : Oo W n A h₀ μ s) (kk : Kept s.heap h) (k : K d μ) (r : Rep h v d) : Po h₀ K s v { s with heap := h, toks := tk } :=
  ⟨Stp.kept kk, o.keep.trans kk, d, μ, k, r, o.led.kept kk⟩
theorem Po.list {A : Around} {h₀ : Heap} {s : Shared} {h : Heap} {a : Addr} {tk : Nat} {xs : List D} (o : Oo W n A h₀ μ s) (kk : Kept s.heap h) (hn : s.heap.get? a = none) (hl : LstAt h a xs) (k : ∀ a, μ a = none → K (.ref a) (upd μ a xs)) :
    Po h₀ K s (.ref a) { s with heap := h, toks := tk } :=
  ⟨Stp.kept kk, o.keep.trans kk, .ref a, upd μ a xs, k a (led_none_of_get o.led hn), .val _, o.led.list o.keep kk hn hl⟩

theorem W2.ints {t : Value → Value → Sem Value} {a b : Int} (h : ∀ A h₀ s t1 t2, Oo W n A h₀ μ s → wpAny (model W.prog W.w) A (t (.int a t1) (.int b t2)) (Po h₀ K s) Nev s) : W2 W n t (.int a) (.int b) μ K := fun A h₀ s v1 v2 o r1 r2 => by
  cases r1; cases r2; exact h A h₀ s _ _ o
theorem W2.strs {t : Value → Value → Sem Value} {a b : Str} (h : ∀ A h₀ s t1 t2, Oo W n A h₀ μ s → wpAny (model W.prog W.w) A (t (.str a t1) (.str b t2)) (Po h₀ K s) Nev s) : W2 W n t (.str a) (.str b) μ K := fun A h₀ s v1 v2 o r1 r2 => by
  cases r1; cases r2; exact h A h₀ s _ _ o
theorem W2.bytess {t : Value → Value → Sem Value} {a b : List UInt8} (h : ∀ A h₀ s t1 t2, Oo W n A h₀ μ s → wpAny (model W.prog W.w) A (t (.bytes a.toArray t1) (.bytes b.toArray t2)) (Po h₀ K s) Nev s) : W2 W n t (.bytes a) (.bytes b) μ K := fun A h₀ s v1 v2 o r1 r2 => by
  cases r1; cases r2; exact h A h₀ s _ _ o
theorem W2.add_int {a b : Int} (k : K (.int (a + b)) μ) : W2 W n (binaryOp .Add) (.int a) (.int b) μ K := W2.ints fun A h₀ s t1 t2 o => PyProof.Rows.add_int (Po.tok o k (.int _ _))
theorem W2.sub_int {a b : Int} (k : K (.int (a - b)) μ) : W2 W n (binaryOp .Sub) (.int a) (.int b) μ K := W2.ints fun A h₀ s t1 t2 o => PyProof.Rows.sub_int (Po.tok o k (.int _ _))
theorem W2.mul_int {a b : Int} (hm : IntMulOk a b) (k : K (.int (a * b)) μ) : W2 W n (binaryOp .Mult) (.int a) (.int b) μ K := W2.ints fun A h₀ s t1 t2 o => PySem.P.mul_int (Po.tok o k (.int _ _)) hm
theorem W2.mod_int {a b : Int} (hb : b ≠ 0) (k : K (.int (a.fmod b)) μ) : W2 W n (binaryOp .Mod) (.int a) (.int b) μ K := W2.ints fun A h₀ s t1 t2 o => PyProof.Rows.mod_int hb (Po.tok o k (.int _ _))
theorem W2.div_int {a b : Int} (hb : b ≠ 0) (hs : b.natAbs.log2 < 9000) (k : K (.int (a.fdiv b)) μ) : W2 W n (binaryOp .FloorDiv) (.int a) (.int b) μ K := W2.ints fun A h₀ s t1 t2 o => PyProof.Rows.floordiv_int hb (Po.tok o k (.int _ _)) (.inl (PyProof.noPylong_of_log2 hs))
theorem W2.pow_int {a b : Int} (hn : 0 ≤ b) (hsz : (Builtin.Int.intBits a : Int) * b ≤ 2 ^ 27) (k : K (.int (a ^ b.toNat)) μ) : W2 W n (binaryOp .Pow) (.int a) (.int b) μ K := W2.ints fun A h₀ s t1 t2 o => PyProof.Rows.pow_int hn hsz (Po.tok o k (.int _ _))
theorem W1.neg_int {a : Int} (k : K (.int (-a)) μ) : W1 W n (unaryOp .USub) (.int a) μ K := fun A h₀ s v1 o r1 => by
  cases r1; exact PySem.P.neg_int (Po.tok o k (.int _ _))
theorem W2.lt_int {a b : Int} (k : K (.bool (decide (a < b))) μ) : W2 W n (compareOp .Lt) (.int a) (.int b) μ K := W2.ints fun A h₀ s t1 t2 o => PySem.P.lt_int (Po.here o k (.val _))
theorem W2.le_int {a b : Int} (k : K (.bool (decide (a ≤ b))) μ) : W2 W n (compareOp .LtE) (.int a) (.int b) μ K := W2.ints fun A h₀ s t1 t2 o => PySem.P.le_int (Po.here o k (.val _))
theorem W2.gt_int {a b : Int} (k : K (.bool (decide (a > b))) μ) : W2 W n (compareOp .Gt) (.int a) (.int b) μ K := W2.ints fun A h₀ s t1 t2 o => PySem.P.gt_int (Po.here o k (.val _))
theorem W2.ge_int {a b : Int} (k : K (.bool (decide (a ≥ b))) μ) : W2 W n (compareOp .GtE) (.int a) (.int b) μ K := W2.ints fun A h₀ s t1 t2 o => PySem.P.ge_int (Po.here o k (.val _))
theorem W2.eq_int {a b : Int} (k : K (.bool (a == b)) μ) : W2 W n (compareOp .Eq) (.int a) (.int b) μ K := W2.ints fun A h₀ s t1 t2 o => PySem.P.eq_int (Po.here o k (.val _))
theorem W2.ne_int {a b : Int} (k : K (.bool (a != b)) μ) : W2 W n (compareOp .NotEq) (.int a) (.int b) μ K := W2.ints fun A h₀ s t1 t2 o => PySem.P.ne_int (Po.here o k (.val _))
theorem W2.ne_bool {a b : Bool} (k : K (.bool (a != b)) μ) : W2 W n (compareOp .NotEq) (.bool a) (.bool b) μ K := fun A h₀ s v1 v2 o r1 r2 => by
  cases r1; cases r2; exact PyProof.Rows.ne_bool (Po.here o k (.val _))
theorem W2.eq_str {x y : Str} (k : K (.bool (x.cps.toList == y.cps.toList)) μ) : W2 W n (compareOp .Eq) (.str x) (.str y) μ K := W2.strs fun A h₀ s t1 t2 o => PySem.P.eq_str (Po.here o k (.val _))
theorem W2.ne_str {x y : Str} (k : K (.bool (x.cps.toList != y.cps.toList)) μ) : W2 W n (compareOp .NotEq) (.str x) (.str y) μ K := W2.strs fun A h₀ s t1 t2 o => PySem.P.ne_str (Po.here o k (.val _))
theorem W2.eq_bytes {x y : List UInt8} (k : K (.bool (x == y)) μ) : W2 W n (compareOp .Eq) (.bytes x) (.bytes y) μ K := W2.bytess fun A h₀ s t1 t2 o => _root_.PySem.W.eq_bytes (Po.here o k (.val _))
theorem W2.ne_bytes {x y : List UInt8} (k : K (.bool (x != y)) μ) : W2 W n (compareOp .NotEq) (.bytes x) (.bytes y) μ K := W2.bytess fun A h₀ s t1 t2 o => _root_.PySem.W.ne_bytes (Po.here o k (.val _))
theorem W2.add_bytes {x y : List UInt8} (hz : x.length + y.length ≤ 16777216) (k : K (.bytes (x ++ y)) μ) : W2 W n (binaryOp .Add) (.bytes x) (.bytes y) μ K := W2.bytess fun A h₀ s t1 t2 o => by
  refine _root_.PySem.W.KBy.add_bytes (by simpa using hz) fun t' tk => ?_
  rw [List.append_toArray]
  exact Po.tok o k (.bytes _ _)
theorem W2.add_str {x y : Str} (hx : x.length ≠ 0) (hy : y.length ≠ 0) (hz : (x ++ y).length ≤ sizeLine) (k : K (.str (x ++ y)) μ) : W2 W n (binaryOp .Add) (.str x) (.str y) μ K := W2.strs fun A h₀ s t1 t2 o => by
  refine PySem.P.add_str ?_
  have e1 : (x.length == 0) = false := by simpa using hx
  have e2 : (y.length == 0) = false := by simpa using hy
  rw [e1, e2]
  exact ⟨hz, Po.tok o k (.str _ _)⟩
theorem W2.item_bytes {x : List UInt8} {i : Int} (h0 : 0 ≤ i) (h1 : i < x.length) (hz : x.length ≤ 1099511627776) (k : K (.int (x.getD i.toNat 0).toNat) μ) : W2 W n getItem (.bytes x) (.int i) μ K := fun A h₀ s v1 v2 o r1 r2 => by
  cases r1; cases r2
  exact _root_.PySem.W.getItem_bytes hz h0 h1 (Po.tok o k (.int _ _))
theorem W2.item_tup {ds : List D} {i : Int} {d : D} (h0 : 0 ≤ i) (h1 : i < 2 ^ 63) (hd : ds[i.toNat]? = some d) (k : K d μ) : W2 W n getItem (.tup ds) (.int i) μ K := fun A h₀ s v1 v2 o r1 r2 => by
  cases r2
  cases r1 with
  | @tup a ob vs m ds ho hc hda hf r =>
    obtain ⟨v, hv, rv⟩ := r.get hd
    have hlen : i.toNat < vs.size := by
      have := (List.getElem?_eq_some_iff.mp hv).1
      simpa using this
    have hj : seqIndex? i vs.size = some i.toNat := by unfold seqIndex?; have h2 : i < (vs.size : Int) := by omega
                                                       simp [Int.not_lt.mpr h0, h0, h2]
    exact PyProof.Rows.getItem_tuple ⟨ob, ho, hc, m, hda⟩ (by omega) h1 hj (by simpa using hv) (Po.here o k rv)
theorem W2.item_list {a : Addr} {ds : List D} {i : Int} {d : D} (ha : μ a = some ds) (h0 : 0 ≤ i) (h1 : i < 2 ^ 63) (hd : ds[i.toNat]? = some d) (k : K d μ) : W2 W n getItem (.ref a) (.int i) μ K := fun A h₀ s v1 v2 o r1 r2 => by
  cases r1; cases r2
  obtain ⟨vs, hl, r⟩ := (o.led.lst _ _ ha).isList
  obtain ⟨v, hv, rv⟩ := r.get hd
  exact wpAny_getItem_list hl h0 h1 (by simpa using hv) (Po.here o k rv)
theorem W2.item_list_neg {a : Addr} {ds : List D} {i : Int} {d : D} (ha : μ a = some ds) (h0 : i < 0) (h1 : -(ds.length : Int) ≤ i) (h2 : -(2 ^ 63) ≤ i) (hd : ds[(i + ds.length).toNat]? = some d) (k : K d μ) : W2 W n getItem (.ref a) (.int i) μ K := fun A h₀ s v1 v2 o r1 r2 => by
  cases r1; cases r2
  obtain ⟨vs, hl, r⟩ := (o.led.lst _ _ ha).isList
  have e : vs.size = ds.length := by simpa using r.length
  obtain ⟨v, hv, rv⟩ := r.get hd
  exact wpAny_getItem_list_neg hl h0 (by rw [e]; exact h1) h2 (by rw [e]; simpa using hv) (Po.here o k rv)

/-! ### calls -/
theorem reps1 {h : Heap} {vs : List Value} {d : D} (r : Reps h vs [d]) : ∃ v, vs = [v] ∧ Rep h v d := by
  cases r with | cons r rs => cases rs; exact ⟨_, rfl, r⟩
theorem reps2 {h : Heap} {vs : List Value} {d e : D} (r : Reps h vs [d, e]) : ∃ v w, vs = [v, w] ∧ Rep h v d ∧ Rep h w e := by
  cases r with | cons r rs => obtain ⟨w, rfl, r'⟩ := reps1 rs; exact ⟨_, _, rfl, r, r'⟩
theorem reps3 {h : Heap} {vs : List Value} {d e f : D} (r : Reps h vs [d, e, f]) : ∃ v w u, vs = [v, w, u] ∧ Rep h v d ∧ Rep h w e ∧ Rep h u f := by
  cases r with | cons r rs => obtain ⟨w, u, rfl, r', r''⟩ := reps2 rs; exact ⟨_, _, _, rfl, r, r', r''⟩
theorem reps4 {h : Heap} {vs : List Value} {d e f g : D} (r : Reps h vs [d, e, f, g]) : ∃ v w u x, vs = [v, w, u, x] ∧ Rep h v d ∧ Rep h w e ∧ Rep h u f ∧ Rep h x g := by
  cases r with | cons r rs => obtain ⟨w, u, x, rfl, r', r''⟩ := reps3 rs; exact ⟨_, _, _, _, rfl, r, r', r''⟩

/-- a list that stands in the ledger or in the world -/
inductive Lis (W : GW) (μ : Led) : D → List D → Prop
  | led {a : Addr} {xs : List D} (h : μ a = some xs) : Lis W μ (.ref a) xs
  | glb {a : Addr} {xs : List D} (h : ∀ g, W.Glb g → ∃ vs, g.IsList a vs ∧ Reps g vs.toList xs) : Lis W μ (.ref a) xs
theorem Lis.at {d : D} {xs : List D} (l : Lis W μ d xs) {h₀ : Heap} {h : Heap} {v : Value} (g : W.Glb h) (o : LedOk h₀ μ h) (r : Rep h v d) : ∃ a vs, v = .ref a ∧ h.IsList a vs ∧ Reps h vs.toList xs := by
  cases l with
  | led e => cases r; obtain ⟨vs, a1, a2⟩ := (o.lst _ _ e).isList; exact ⟨_, vs, rfl, a1, a2⟩
  | glb e => cases r; obtain ⟨vs, a1, a2⟩ := e h g; exact ⟨_, vs, rfl, a1, a2⟩
theorem Oo.glb {A : Around} {h₀ : Heap} {s : Shared} (o : Oo W n A h₀ μ s) : W.Glb s.heap := W.keeps o.g o.keep

theorem Wc.int1 {f : Value} {a : Int} (h : ∀ A h₀ s t, Oo W n A h₀ μ s → wpAny (model W.prog W.w) A (call f [.int a t]) (Po h₀ K s) Nev s) : Wc W n f [.int a] μ K := fun A h₀ s vs o r => by
  obtain ⟨v, rfl, r1⟩ := reps1 r; cases r1; exact h A h₀ s _ o
theorem Wc.int2 {f : Value} {a b : Int} (h : ∀ A h₀ s t u, Oo W n A h₀ μ s → wpAny (model W.prog W.w) A (call f [.int a t, .int b u]) (Po h₀ K s) Nev s) : Wc W n f [.int a, .int b] μ K := fun A h₀ s vs o r => by
  obtain ⟨v, w, rfl, r1, r2⟩ := reps2 r; cases r1; cases r2; exact h A h₀ s _ _ o
theorem Wc.len_bytes {x : List UInt8} (hz : x.length ≤ 1099511627776) (k : K (.int x.length) μ) : Wc W n (.builtin "len") [.bytes x] μ K := fun A h₀ s vs o r => by
  obtain ⟨v, rfl, r1⟩ := reps1 r; cases r1
  refine _root_.PySem.W.len_bytes (by simpa using hz) ?_
  simpa using Po.tok o k (.int _ _)
theorem Wc.len_list {d : D} {xs : List D} (hl : Lis W μ d xs) (hz : xs.length ≤ 2 ^ 62) (k : K (.int xs.length) μ) : Wc W n (.builtin "len") [d] μ K := fun A h₀ s vs o r => by
  obtain ⟨v, rfl, r1⟩ := reps1 r
  obtain ⟨a, vs, rfl, hl, rs⟩ := hl.at o.glb o.led r1
  have e : vs.size = xs.length := by simpa using rs.length
  refine call_len_list hl (by rw [e]; omega) ?_
  rw [e]
  exact Po.tok o k (.int _ _)
theorem Wc.int {a : Int} (k : K (.int a) μ) : Wc W n (.type "int") [.int a] μ K := Wc.int1 fun A h₀ s t o => call_int_int (Po.here o k (.int _ _))
theorem Wc.abs {a : Int} (k : K (.int (if a < 0 then -a else a)) μ) : Wc W n (.builtin "abs") [.int a] μ K := Wc.int1 fun A h₀ s t o => PyProof.Rows.call_abs_int fun u tk => Po.tok o k (.int _ _)
theorem Wc.ord {c : Nat} (k : K (.int c) μ) : Wc W n (.builtin "ord") [.str ⟨#[c]⟩] μ K := fun A h₀ s vs o r => by
  obtain ⟨v, rfl, r1⟩ := reps1 r; cases r1
  exact P.ord_of_char (Po.tok o k (.int _ _))
theorem Wc.max {a b : Int} (k : K (.int (if b > a then b else a)) μ) : Wc W n (.builtin "max") [.int a, .int b] μ K := Wc.int2 fun A h₀ s t u o => by
  refine max_two_ints o.a.hand fun h' tk hk => ?_
  split
  · rename_i c; rw [if_pos c] at k; exact Po.kept o hk k (.int _ _)
  · rename_i c; rw [if_neg c] at k; exact Po.kept o hk k (.int _ _)
theorem Wc.min {a b : Int} (k : K (.int (if b < a then b else a)) μ) : Wc W n (.builtin "min") [.int a, .int b] μ K := Wc.int2 fun A h₀ s t u o => by
  refine min_two_ints o.a.hand fun h' tk hk => ?_
  split
  · rename_i c; rw [if_pos c] at k; exact Po.kept o hk k (.int _ _)
  · rename_i c; rw [if_neg c] at k; exact Po.kept o hk k (.int _ _)
theorem intsOf {h : Heap} : ∀ {vs : List Value} {ns : List Int}, Reps h vs (ns.map D.int) → PyProof.Rows.IntsAre vs ns := by
  intro vs ns
  induction ns generalizing vs with
  | nil => intro r; cases r; exact .nil
  | cons n ns ih =>
    intro r
    cases r with
    | cons r rs => cases r; exact .cons _ _ (ih rs)
theorem Wc.bytes {a : Addr} {ns : List Int} (ha : μ a = some (ns.map D.int)) (hr : ∀ n ∈ ns, 0 ≤ n ∧ n < 256) (hz : ns.length ≤ sizeLine) (k : K (.bytes (ns.map fun n => n.toNat.toUInt8)) μ) : Wc W n (.type "bytes") [.ref a] μ K := fun A h₀ s vs o r => by
  obtain ⟨v, rfl, r1⟩ := reps1 r; cases r1
  obtain ⟨vs, hl, rs⟩ := (o.led.lst _ _ ha).isList
  have hi := intsOf rs
  exact call_bytes_ints (vs := vs.toList) (by simpa using hl) hi hr (by rw [hi.length]; exact hz) o.a.hand fun h' t tk hk => Po.kept o hk k (.bytes _ _)
theorem Wc.str {a : Int} (ha : a.natAbs.log2 < 1920) (hz : (Str.ofString (toString a)).length ≤ sizeLine) (k : K (.str (Str.ofString (toString a))) μ) : Wc W n (.type "str") [.int a] μ K := Wc.int1 fun A h₀ s t o => P.str_of_int ha (Po.tok o k (.str _ _))
end
end Mine

namespace Mine
open PySem PySem.Calls
noncomputable abbrev kAsg (F : Fm) (x : Str) (ds : List (Option D)) (K : Flw → List (Option D) → Led → Prop) : D → Led → Prop := fun d μ' => ∃ ds', Put F.ns ds x d ds' ∧ K .next ds' μ'
theorem kAsg.go {F : Fm} {x : Str} {ds ds' : List (Option D)} {K : Flw → List (Option D) → Led → Prop} {d : D} {μ : Led} (h : Put F.ns ds x d ds') (k : K .next ds' μ) : kAsg F x ds K d μ := ⟨ds', h, k⟩
noncomputable abbrev kExp (ds : List (Option D)) (K : Flw → List (Option D) → Led → Prop) : D → Led → Prop := fun d μ' => d = .none ∧ K .next ds μ'
noncomputable abbrev kRet (ds : List (Option D)) (K : Flw → List (Option D) → Led → Prop) : D → Led → Prop := fun d μ' => K (.ret d) ds μ'
noncomputable abbrev kIfs (F : Fm) (a b : List Stmt) (ds : List (Option D)) (K : Flw → List (Option D) → Led → Prop) : Bool → Led → Prop := fun c μ' => if c then Ws F a ds μ' K else Ws F b ds μ' K
noncomputable abbrev kNx (K : Flw → List (Option D) → Led → Prop) : List (Option D) → Led → Prop := fun ds' μ'' => K .next ds' μ''
noncomputable abbrev kNl (ds : List (Option D)) (K : Flw → List (Option D) → Led → Prop) : Led → Prop := fun μ4 => K .next ds μ4
section
variable {F : Fm} {ds : List (Option D)} {μ : Led} {K : Flw → List (Option D) → Led → Prop}

theorem tup_of_data {h h' : Heap} {a : Addr} (hs : Heap.SameBut a h h') (hd : ∀ o vs n, h.get? a = some o → o.cls = .type "tuple" → o.data = .seq vs n → False) : TupKeep h h' := fun b o vs n e hc hq _ => by
  by_cases hb : b = a
  · subst hb; exact (hd o vs n e hc hq).elim
  · exact (hs.2 b hb).trans e

/-- a name of the frame is stored -/
theorem store_ok2 {A : Around} {h₀ : Heap} {s : Shared} {x : Str} {v : Value} {d : D} {ds' : List (Option D)} {Q : Unit → Shared → Prop} {E : Value → Shared → Prop} (ok : Ok F A h₀ ds μ s) (r : Rep s.heap v d)
    (hp : Put F.ns ds x d ds') (hx : x ∉ F.ro) (h : ∀ s', Stp s s' → St h₀ F.e F.ns ds' μ s' → (∀ b o, b ≠ F.e.locals → (∀ w, o.data ≠ .cell w) → s.heap.get? b = some o → s'.heap.get? b = some o) → Q () s') : wpAny (model F.W.prog F.W.w) A (storeName F.e x v) Q E s := by
  obtain ⟨m, hm, hv⟩ := ok.st.loc
  obtain ⟨ol, es, ep, hol, hdl, hrl⟩ := id hm
  have ndict : ∀ a o, s.heap.get? a = some o → (∀ es ep, o.data ≠ .dict es ep) → a ≠ F.e.locals := fun a o e hd q => by
    subst q; rw [hol] at e; cases e; exact hd _ _ hdl
  obtain ⟨_, hk⟩ := ok.e.loc x hp.mem
  rcases hk with hl | ⟨hc, c, hcc⟩
  · refine wpAny_storeName_local hl hm (fun h' hn hs => ?_) (by rw [ok.e.kind]; rfl)
    have tk : TupKeep s.heap h' := tup_of_data hs fun o vs n e _ hq => by rw [hol] at e; cases e; rw [hdl] at hq; cases hq
    refine h _ ⟨⟨h', _, rfl⟩, tk⟩ ⟨⟨_, hn, fun y d' q hy => ?_⟩, fun y c q1 q2 q3 => ?_, fun b o e => ?_, ok.st.Lnew, ⟨fun a xs q => ?_, ok.st.led.new⟩⟩ fun b o hb _ q => hs.extBut b o hb q
    · rcases hp.has ok.e.nd q with ⟨rfl, rfl⟩ | ⟨hne, q'⟩
      · exact ⟨v, by simp, r.mono tk⟩
      · obtain ⟨v', e1, e2⟩ := hv y d' q' hy
        exact ⟨v', by simp [hne, e1], e2.mono tk⟩
    · obtain ⟨w, hcell, a2, a3⟩ := ok.st.cel y c q1 q2 q3
      obtain ⟨o, ho, hd⟩ := id hcell
      refine ⟨w, hcell.sameBut hs (ndict c o ho fun _ _ q => by rw [hd] at q; cases q), fun d' q => ?_, a3⟩
      rcases hp.has ok.e.nd q with ⟨rfl, rfl⟩ | ⟨hne, q'⟩
      · rw [hl] at q2; cases q2
      · obtain ⟨v', e1, e2⟩ := a2 d' q'
        exact ⟨v', e1, e2.mono tk⟩
    · exact (hs.2 b fun q => by rw [q, ok.st.Lnew] at e; cases e).trans (ok.st.keep b o e)
    · have l := ok.st.led.lst a xs q
      obtain ⟨o, vs, n, ho, _, _, hd, _⟩ := id l
      exact l.at tk (hs.2 a (ndict a o ho fun _ _ q => by rw [hd] at q; cases q))
  · obtain ⟨w, hcell, a2, a3⟩ := ok.st.cel x c hp.mem hc hcc
    obtain ⟨oc, hoc, hdc⟩ := id hcell
    refine wpAny_storeName_cell ok.e.kind hc hcc hcell fun h' hn hs => ?_
    have ncell : ∀ a o, s.heap.get? a = some o → (∀ w, o.data ≠ .cell w) → a ≠ c := fun a o e hd q => by
      subst q; rw [hoc] at e; cases e; exact hd _ hdc
    have tk : TupKeep s.heap h' := tup_of_data hs fun o vs n e _ hq => by rw [hoc] at e; cases e; rw [hdc] at hq; cases hq
    have hnew : h₀.get? c = none := a3 (ok.e.own x hp.mem hx hc c hcc)
    refine h _ ⟨⟨h', _, rfl⟩, tk⟩ ⟨⟨m, hm.sameBut hs (ncell _ _ hol fun _ q => by rw [hdl] at q; cases q), fun y d' q hy => ?_⟩, fun y c' q1 q2 q3 => ?_, fun b o e => ?_, ok.st.Lnew, ⟨fun a xs q => ?_, ok.st.led.new⟩⟩ fun b o _ hb q => hs.extBut b o (ncell b o q hb) q
    · rcases hp.has ok.e.nd q with ⟨rfl, rfl⟩ | ⟨hne, q'⟩
      · rw [hc] at hy; cases hy
      · obtain ⟨v', e1, e2⟩ := hv y d' q' hy
        exact ⟨v', e1, e2.mono tk⟩
    · by_cases hyx : y = x
      · subst hyx
        rw [hcc] at q3; cases q3
        refine ⟨some v, hn, fun d' q => ?_, a3⟩
        rcases hp.has ok.e.nd q with ⟨_, rfl⟩ | ⟨hne, q'⟩
        · exact ⟨v, rfl, r.mono tk⟩
        · exact absurd rfl hne
      · obtain ⟨w', hcell', b2, b3⟩ := ok.st.cel y c' q1 q2 q3
        refine ⟨w', hcell'.sameBut hs fun q => hyx (ok.e.inj y q1 x hp.mem c q2 hc (q ▸ q3) hcc), fun d' q => ?_, b3⟩
        rcases hp.has ok.e.nd q with ⟨rfl, rfl⟩ | ⟨hne, q'⟩
        · exact absurd rfl hyx
        · obtain ⟨v', e1, e2⟩ := b2 d' q'
          exact ⟨v', e1, e2.mono tk⟩
    · exact (hs.2 b fun q => by rw [q, hnew] at e; cases e).trans (ok.st.keep b o e)
    · have l := ok.st.led.lst a xs q
      obtain ⟨o, vs, n, ho, _, _, hd, _⟩ := id l
      exact l.at tk (hs.2 a (ncell a o ho fun _ q => by rw [hd] at q; cases q))

theorem store_ok {A : Around} {h₀ : Heap} {s : Shared} {x : Str} {v : Value} {d : D} {ds' : List (Option D)} {Q : Unit → Shared → Prop} {E : Value → Shared → Prop} (ok : Ok F A h₀ ds μ s) (r : Rep s.heap v d)
    (hp : Put F.ns ds x d ds') (hx : x ∉ F.ro) (h : ∀ s', Stp s s' → St h₀ F.e F.ns ds' μ s' → Q () s') : wpAny (model F.W.prog F.W.w) A (storeName F.e x v) Q E s :=
  store_ok2 ok r hp hx fun s' a b _ => h s' a b

/-! targets -/
theorem Wa.name {x : Str} {p : Pos} {d : D} {ds' : List (Option D)} {K : List (Option D) → Led → Prop} (hf : ∀ xs, d = .tup xs → xs.all flatD = true) (hp : Put F.ns ds x d ds') (hx : x ∉ F.ro) (k : K ds' μ) : Wa F (.Name x p) d ds μ K :=
  fun _ _ _ _ ok r => wpAny_assign_Name (store_ok ok (r.toRep hf) hp hx fun _ st S => ⟨st, ds', μ, k, S⟩)
noncomputable def Wz (F : Fm) (ts : List Expr) (xs : List D) (ds : List (Option D)) (μ : Led) (K : List (Option D) → Led → Prop) : Prop :=
  ∀ A h₀ s vs, Ok F A h₀ ds μ s → Reps s.heap vs xs → wpAny (model F.W.prog F.W.w) A (assignInOrder ((assignEach ts F.e).map (·.2)) vs) (fun _ s' => Pu F h₀ K s s') Nev s
noncomputable abbrev kWz (F : Fm) (ts : List Expr) (xs : List D) (K : List (Option D) → Led → Prop) : List (Option D) → Led → Prop := fun ds' μ' => Wz F ts xs ds' μ' K
theorem Wz.nil {K : List (Option D) → Led → Prop} (k : K ds μ) : Wz F [] [] ds μ K := fun _ _ s _ ok r => by cases r; exact wpAny_pure ⟨.refl s, ds, μ, k, ok.st⟩
theorem Wz.cons {t : Expr} {ts : List Expr} {d : D} {xs : List D} {K : List (Option D) → Led → Prop} (he : ∀ e, assignEach (t :: ts) e = (false, assign t e) :: assignEach ts e)
    (h : Wa F t d ds μ (kWz F ts xs K)) : Wz F (t :: ts) (d :: xs) ds μ K := fun A h₀ s vs ok r => by
  cases r with
  | cons r rs =>
    rw [he]
    show wpAny _ A (do holding _ (assign t F.e _); assignInOrder _ _) _ _ s
    refine wpAny_bind (wpAny_holding (wpA (h A h₀ s _ ok (.rep r)) fun _ s₁ p1 => ?_))
    refine p1.el fun st1 ds1 μ1 k1 S1 => ?_
    exact wpA (k1 A h₀ s₁ _ (ok.to S1) (rs.mono st1.tup)) fun _ _ p => p.after st1
theorem RepT.tuple {h : Heap} {v : Value} {xs : List D} (r : RepT h v (.tup xs)) : ∃ a vs, v = .ref a ∧ PyProof.Rows.IsTup h a vs ∧ Reps h vs.toList xs := by
  cases r with
  | rep r => cases r with | tup ho hc hd _ r => exact ⟨_, _, rfl, ⟨_, ho, hc, _, hd⟩, r⟩
  | tup ho hc hd r => exact ⟨_, _, rfl, ⟨_, ho, hc, _, hd⟩, r⟩
theorem Wa.tuple {ts : List Expr} {q : Nat} {p : Pos} {xs : List D} {K : List (Option D) → Led → Prop} (hn : ts.length = xs.length) (hstar : ∀ e, (assignEach ts e).findIdx? (·.1) = none) (hlen : ∀ e, (assignEach ts e).length = ts.length)
    (h : Wz F ts xs ds μ K) : Wa F (.Tuple ts q p) (.tup xs) ds μ K := fun A h₀ s v ok r => by
  obtain ⟨a, vs, rfl, ht, r⟩ := r.tuple
  have hsz : (assignEach ts F.e).length = vs.size := by
    rw [hlen, hn]
    simpa using r.length.symm
  refine PyProof.Rows.assign_Tuple_tuple ok.a.hand ht hsz (hstar _) fun h' hx => ?_
  have kk : Kept s.heap h' := fun b o e => hx b o (Nat.ne_of_lt (Heap.lt_size e)) e
  exact wpA (h A h₀ _ _ (ok.to (ok.st.kept (tk := s.toks) kk)) (r.mono kk.tup)) fun _ _ p => p.after (Stp.kept (tk := s.toks) kk)
/-- names stored from the last to the first, as the machine does where it exchanges -/
noncomputable def Wn (F : Fm) (xs : List Str) (xds : List D) (ds : List (Option D)) (μ : Led) (K : List (Option D) → Led → Prop) : Prop :=
  ∀ A h₀ s vs, Ok F A h₀ ds μ s → Reps s.heap vs xds → wpAny (model F.W.prog F.W.w) A (assignInOrder (xs.map fun n => bindName F.e n) vs) (fun _ s' => Pu F h₀ K s s') Nev s
theorem Wn.nil {K : List (Option D) → Led → Prop} (k : K ds μ) : Wn F [] [] ds μ K := fun _ _ s _ ok r => by cases r; exact wpAny_pure ⟨.refl s, ds, μ, k, ok.st⟩
theorem Wn.cons {x : Str} {xs : List Str} {d : D} {xds : List D} {ds' : List (Option D)} {K : List (Option D) → Led → Prop} (hp : Put F.ns ds x d ds') (hx : x ∉ F.ro) (h : Wn F xs xds ds' μ K) : Wn F (x :: xs) (d :: xds) ds μ K := fun A h₀ s vs ok r => by
  cases r with
  | cons r rs =>
    show wpAny _ A (do holding _ (bindName F.e x _); assignInOrder _ _) _ _ s
    refine wpAny_bind (wpAny_holding (wpAny_bindName (store_ok ok r hp hx fun s₁ st1 S1 => ?_)))
    exact wpA (h A h₀ s₁ _ (ok.to S1) (rs.mono st1.tup)) fun _ _ p => p.after st1

/-! statements -/
noncomputable def thenK (F : Fm) (rest : List Stmt) (K : Flw → List (Option D) → Led → Prop) : Flw → List (Option D) → Led → Prop
  | .next, ds, μ => Ws F rest ds μ K
  | .brk, ds, μ => K .brk ds μ
  | .cont, ds, μ => K .cont ds μ
  | .ret d, ds, μ => K (.ret d) ds μ
theorem Ws.nil (k : K .next ds μ) : Ws F [] ds μ K := fun _ _ s ok => wpAny_execs_nil ⟨.refl s, .next, ds, μ, k, .next, ok.st⟩
theorem Ws.cons {x : Stmt} {xs : List Stmt} (h : We F x ds μ (thenK F xs K)) : Ws F (x :: xs) ds μ K := fun A h₀ s ok =>
  wpAny_execs_cons (wpA (h A h₀ s ok) fun f s₁ p1 => by
    refine p1.el fun st1 g ds1 μ1 k1 fr S1 => ?_
    cases fr with
    | next => exact wpA (k1 A h₀ s₁ (ok.to S1)) fun _ _ p => p.after st1
    | brk => exact ⟨st1, .brk, ds1, μ1, k1, .brk, S1⟩
    | cont => exact ⟨st1, .cont, ds1, μ1, k1, .cont, S1⟩
    | ret r => exact ⟨st1, .ret _, ds1, μ1, k1, .ret r, S1⟩)
theorem Pu.flow {h₀ : Heap} {s s' : Shared} (p : Pu F h₀ (fun ds' μ' => K .next ds' μ') s s') : Pf F h₀ K s .next s' := let ⟨ds', μ', k, S⟩ := p.out; ⟨p.stp, .next, ds', μ', k, .next, S⟩
theorem We.assign {x : Str} {p' p : Pos} {e : Expr} (hs : ∀ env, swapsWith e (some (.Name x p')) p.line env = pure false) (hx : x ∉ F.ro)
    (h : Wp F e ds μ (kAsg F x ds K)) : We F (.Assign [.Name x p'] e p) ds μ K := fun A h₀ s ok =>
  wpAny_Assign_Name (wpA (h A h₀ s ok) fun v s₁ p1 => by
    refine p1.el fun st1 d μ1 hk3 r1 S1 => ?_
    obtain ⟨ds', hp, k1⟩ := hk3
    exact store_ok (ok.to S1) r1 hp hx fun s₂ st2 S2 => ⟨st1.trans st2, .next, ds', μ1, k1, .next, S2⟩) (hs _)
theorem Wl.tupled {A : Around} {h₀ : Heap} {s : Shared} {p : Pos} {es : List Expr} {q : Nat} {KL : List D → Led → Prop} (ok : Ok F A h₀ ds μ s) (h : Wl F p es ds μ fun ys μ' => ys.length ≤ sizeLine ∧ KL ys μ') :
    wpAny (model F.W.prog F.W.w) A (eval (.Tuple es q p) F.e) (fun v s' => Stp s s' ∧ ∃ xs μ', KL xs μ' ∧ RepT s'.heap v (.tup xs) ∧ (∃ a, v = .ref a ∧ h₀.get? a = none) ∧ St h₀ F.e F.ns ds μ' s') Nev s :=
  wpAny_Tuple (wpA (h A h₀ s ok) fun vs s₁ p1 => by
    refine p1.el fun st1 ys μ1 hk3 r1 S1 => ?_
    obtain ⟨hz, k1⟩ := hk3
    refine ⟨by rw [r1.length]; exact hz, st1.trans (Stp.kept (tk := s₁.toks) (Kept.push _ _)), ys, μ1, k1, ?_, ⟨_, rfl, fresh_base S1.keep⟩, S1.kept (Kept.push _ _)⟩
    exact .tup (Heap.get?_push_size _ rfl) rfl rfl (by simpa using r1.mono (Kept.push _ _).tup))
noncomputable abbrev kUnp (F : Fm) (t : Expr) (ds : List (Option D)) (K : Flw → List (Option D) → Led → Prop) : List D → Led → Prop := fun xs μ' => xs.length ≤ sizeLine ∧ Wa F t (.tup xs) ds μ' (kNx K)
theorem We.unpack {ts es : List Expr} {q q' : Nat} {tp p p' : Pos} (hs : ∀ env, swapsWithSole [.Tuple ts q tp] (.Tuple es q' p') p.line env = pure false) (hw : ∀ env, env.scope = F.e.scope → swappedStores [.Tuple ts q tp] (.Tuple es q' p') env = pure none)
    (h : Wl F p' es ds μ (kUnp F (.Tuple ts q tp) ds K)) : We F (.Assign [.Tuple ts q tp] (.Tuple es q' p') p) ds μ K := fun A h₀ s ok =>
  PyProof.Rows.Assign_Tuple (wpA (Wl.tupled ok h) fun v s₁ p1 => by
    obtain ⟨st1, xs, μ1, k1, r1, _, S1⟩ := p1
    exact wpA (k1 A h₀ s₁ v (ok.to S1) r1) fun _ _ p => (p.after st1).flow) (hs _) (hw _ rfl)
noncomputable abbrev kSwp (F : Fm) (names : List Str) (ds : List (Option D)) (K : Flw → List (Option D) → Led → Prop) : List D → Led → Prop := fun xs μ' => xs.length ≤ sizeLine ∧ names.length = xs.length ∧ Wn F names.reverse xs.reverse ds μ' (kNx K)
theorem We.swapped {ts es : List Expr} {q q' : Nat} {tp p p' : Pos} {names : List Str} (hs : ∀ env, swapsWithSole [.Tuple ts q tp] (.Tuple es q' p') p.line env = pure false) (hw : ∀ env, env.scope = F.e.scope → swappedStores [.Tuple ts q tp] (.Tuple es q' p') env = pure (some names))
    (h : Wl F p' es ds μ (kSwp F names ds K)) : We F (.Assign [.Tuple ts q tp] (.Tuple es q' p') p) ds μ K := fun A h₀ s ok =>
  PyProof.Rows.Assign_Tuple_swapped (wpA (Wl.tupled ok h) fun v s₁ p1 => by
    obtain ⟨st1, xs, μ1, ⟨hn, k1⟩, r1, _, S1⟩ := p1
    obtain ⟨a, vs, rfl, ht, r⟩ := r1.tuple
    have hsz : names.length = vs.size := by rw [hn]; simpa using r.length.symm
    rw [hsz]
    refine PyProof.Rows.unpackItems_tuple ok.a.hand ht fun h' hx => ?_
    have kk : Kept s₁.heap h' := fun b o e => hx b o (Nat.ne_of_lt (Heap.lt_size e)) e
    have rev : ∀ {h : Heap} {vs : List Value} {xs : List D}, Reps h vs xs → Reps h vs.reverse xs.reverse := by
      intro h vs xs r
      induction vs generalizing xs with
      | nil => cases r; exact .nil
      | cons v vs ih => cases r with | cons r rs => simpa using (ih rs).append (.cons r .nil)
    have S2 := S1.kept (tk := s₁.toks) kk
    exact wpA (k1 A h₀ { s₁ with heap := h', toks := s₁.toks } _ (ok.to S2) (rev (r.mono kk.tup))) fun _ _ p => ((p.after (Stp.kept (tk := s₁.toks) kk)).after st1).flow) (hs _) (hw _ rfl)
theorem We.expr {e : Expr} {p : Pos} (hs : ∀ env, swapsWith e none p.line env = pure false) (h : Wp F e ds μ (kExp ds K)) : We F (.Expr e p) ds μ K := fun A h₀ s ok =>
  wpAny_Expr (wpA (h A h₀ s ok) fun v s₁ p1 => by
    refine p1.el fun st1 d μ1 hk3 r1 S1 => ?_
    obtain ⟨rfl, k1⟩ := hk3
    cases r1
    exact ⟨st1, .next, ds, μ1, k1, .next, S1⟩) ok.e.inter (hs _)
theorem We.ret {e : Expr} {p : Pos} (h : Wp F e ds μ (kRet ds K)) : We F (.Return (some e) p) ds μ K := fun A h₀ s ok =>
  wpAny_Return_some (wpA (h A h₀ s ok) fun v s₁ p1 => by
    refine p1.el fun st1 d μ1 k1 r1 S1 => ?_
    exact ⟨st1, .ret d, ds, μ1, k1, .ret r1, S1⟩)
theorem We.brk {p : Pos} (k : K .brk ds μ) : We F (.Break p) ds μ K := fun _ _ s ok => by
  show wpAny _ _ (standAt p >>= fun _ => (pure Flow.brk : Sem Flow)) _ _ s
  exact wpAny_bind (wpAny_standAt (wpAny_pure ⟨.refl s, .brk, ds, μ, k, .brk, ok.st⟩))
theorem We.ifs {t : Expr} {a b : List Stmt} {p : Pos} (h : Wt F t ds μ (kIfs F a b ds K)) : We F (.If t a b p) ds μ K := fun A h₀ s ok =>
  wpAny_If (wpA (h A h₀ s ok) fun c s₁ p1 => by
    refine p1.el fun st1 μ1 k1 S1 => ?_
    cases c with
    | false => exact wpA (k1 A h₀ s₁ (ok.to S1)) fun _ _ p => p.after st1
    | true => exact wpA (k1 A h₀ s₁ (ok.to S1)) fun _ _ p => p.after st1)

/-! an item is stored -/
noncomputable def W3 (W : GW) (n : Nat) (t : Value → Value → Value → Sem Unit) (d1 d2 d3 : D) (μ : Led) (K : Led → Prop) : Prop :=
  ∀ A h₀ s v1 v2 v3, Oo W n A h₀ μ s → Rep s.heap v1 d1 → Rep s.heap v2 d2 → Rep s.heap v3 d3 → wpAny (model W.prog W.w) A (t v1 v2 v3) (fun _ s' => Stp s s' ∧ Kept h₀ s'.heap ∧ ∃ μ', K μ' ∧ LedOk h₀ μ' s'.heap) Nev s
noncomputable abbrev kSt3 (F : Fm) (d d1 : D) (ds : List (Option D)) (K : Flw → List (Option D) → Led → Prop) : D → Led → Prop := fun d2 μ3 => W3 F.W F.n setItem d1 d2 d μ3 (kNl ds K)
noncomputable abbrev kSt2 (F : Fm) (i : Expr) (d : D) (ds : List (Option D)) (K : Flw → List (Option D) → Led → Prop) : D → Led → Prop := fun d1 μ2 => Wp F i ds μ2 (kSt3 F d d1 ds K)
noncomputable abbrev kSt (F : Fm) (o i : Expr) (ds : List (Option D)) (K : Flw → List (Option D) → Led → Prop) : D → Led → Prop := fun d μ1 => Wp F o ds μ1 (kSt2 F i d ds K)
theorem We.setitem {o i : Expr} {p' p : Pos} {e : Expr} (hs : ∀ env, swapsWith e (some (.Subscript o i p')) p.line env = pure false)
    (h : Wp F e ds μ (kSt F o i ds K)) : We F (.Assign [.Subscript o i p'] e p) ds μ K := fun A h₀ s ok =>
  wpAny_Assign_Subscript (wpA (h A h₀ s ok) fun v s₁ p1 => by
    refine p1.el fun st1 d μ1 k1 r1 S1 => ?_
    refine wpA (k1 A h₀ s₁ (ok.to S1)) fun v2 s₂ p2 => ?_
    refine p2.el fun st2 d1 μ2 k2 r2 S2 => ?_
    refine wpA (k2 A h₀ s₂ (ok.to S2)) fun v3 s₃ p3 => ?_
    refine p3.el fun st3 d2 μ3 k3 r3 S3 => ?_
    refine wpA (k3 A _ s₃ _ _ _ (ok.to S3).op (r2.mono st3.tup) r3 (r1.mono (st2.tup.trans st3.tup))) fun _ s₄ p4 => ?_
    obtain ⟨st4, kk, μ4, k4, l4⟩ := p4
    exact ⟨((st1.trans st2).trans st3).trans st4, .next, ds, μ4, k4, .next, S3.call st4 kk l4⟩) (hs _)
end

section
variable {W : GW} {n : Nat} {μ : Led}
/-- a list of the ledger is written -/
theorem write_led {h₀ : Heap} {s : Shared} {a : Addr} {ds ds' : List D} (kb : Kept h₀ s.heap) (l : LedOk h₀ μ s.heap) (ha : μ a = some ds) {h' : Heap} (hs : Heap.SameBut a s.heap h') (hl : ∀ k : TupKeep s.heap h', LstAt h' a ds') :
    Stp s { s with heap := h' } ∧ Kept h₀ h' ∧ LedOk h₀ (upd μ a ds') h' := by
  have l0 := l.lst a ds ha
  obtain ⟨o, vs, m, ho, hc, _, hd, _⟩ := id l0
  have tk : TupKeep s.heap h' := tup_of_data hs fun o' vs n e hc' _ => by rw [ho] at e; cases e; rw [hc] at hc'; exact absurd hc' (by decide)
  refine ⟨⟨⟨h', s.toks, rfl⟩, tk⟩, fun b o e => (hs.2 b fun q => by rw [q, l.new a ds ha] at e; cases e).trans (kb b o e), ⟨fun b xs q => ?_, fun b xs q => ?_⟩⟩
  · by_cases hb : b = a
    · subst hb; rw [upd_same] at q; cases q; exact hl tk
    · rw [upd_ne μ ds' hb] at q; exact (l.lst b xs q).at tk (hs.2 b hb)
  · by_cases hb : b = a
    · subst hb; exact l.new b ds ha
    · rw [upd_ne μ ds' hb] at q; exact l.new b xs q
theorem Obj.dict_mapSeq (o : Obj) (f) : (o.mapSeq f).dict = o.dict := by
  obtain ⟨c, d, dt, sl⟩ := o; cases dt <;> rfl

theorem setItem_at {prog : Program} {w : World} {A : Around} {E : Value → Shared → Prop} {s : Shared} {l : Addr} {o : Obj} {items : Array Value} {ne : Nat} {k : Int} {t : Tok} {v : Value} {Q : Unit → Shared → Prop}
    (ho : s.heap.get? l = some o) (hc : o.cls = .type "list") (hd : o.data = .seq items ne) {j : Nat} (hfit : Builtin.List.listFitsIndex k = true) (hidx : seqIndex? k items.size = some j) (hj : j < items.size)
    (hQ : Q () { s with heap := s.heap.update l (Obj.mapSeq (·.setIfInBounds j v)) }) :
    wpAny (model prog w) A (setItem (.ref l) (.int k t) v) Q E s := by
  have hl : s.heap.IsList l items := ⟨o, ho, hc, ne, hd⟩
  have hx' : items[j]? = some items[j] := Array.getElem?_eq_getElem hj
  unfold setItem
  try with_reducible refine wpAny_holding ?_
  first | refine wpAny_bind (wpAny_pure ?_) | skip
  refine wpAny_bind (wpAny_sequenceKey hl.typeIs (by decide) ?_)
  refine wpAny_bind (wpAny_callSpecial?_slot (name := Str.ofString "__setitem__") hl.typeIs slot_list_setitem
    (wpAny_call_entry slot_list_setitem hl.typeIs entry_list_setitem ?_ (args_list_setitem _ _ _)))
  show wpAny _ _ (Builtin.List.listSubscript? (.int k t) >>= _) _ _ s
  refine wpAny_bind (wpAny_listSubscript_int hfit ?_)
  cases k with
  | ofNat i =>
    have hji : i = j := by
      have h0 : ¬ ((Int.ofNat i) < 0) := by simp
      simp only [seqIndex?, h0, if_false] at hidx
      split at hidx
      · simpa using hidx
      · cases hidx
    subst hji
    show wpAny _ _ ((seqItemAt l i >>= fun r => pure (r.map (i, ·))) >>= _) _ _ s
    refine wpAny_bind (wpAny_bind (wpAny_seqItemAt ho hd (wpAny_pure ?_)))
    rw [hx']
    show wpAny _ _ (setSeqItemAt l i v >>= _) _ _ s
    refine wpAny_bind (wpAny_setSeqItemAt ho hd ?_)
    first
      | exact wpAny_bind (wpAny_pure (wpAny_pure ⟨.none, rfl, wpAny_pure hQ⟩))
      | exact wpAny_pure ⟨.none, rfl, wpAny_pure hQ⟩
  | negSucc i =>
    show wpAny _ _ ((Builtin.List.listItems (.ref l) >>= fun xs => pure ((seqIndex? (Int.negSucc i) xs.size).bind fun i => xs[i]?.map (i, ·))) >>= _) _ _ s
    refine wpAny_bind (wpAny_bind ?_)
    show wpAny _ _ (seqItems? (.ref l) >>= _) _ _ s
    refine wpAny_bind (wpAny_seqItems ho hd (wpAny_pure (wpAny_pure ?_)))
    rw [hidx]
    simp only [Option.bind_some, hx', Option.map_some]
    show wpAny _ _ (setSeqItemAt l j v >>= _) _ _ s
    refine wpAny_bind (wpAny_setSeqItemAt ho hd ?_)
    first
      | exact wpAny_bind (wpAny_pure (wpAny_pure ⟨.none, rfl, wpAny_pure hQ⟩))
      | exact wpAny_pure ⟨.none, rfl, wpAny_pure hQ⟩
theorem W3.set {a : Addr} {ds : List D} {k : Int} {d : D} {j : Nat} {K : Led → Prop} (ha : μ a = some ds) (hfit : Builtin.List.listFitsIndex k = true) (hidx : seqIndex? k ds.length = some j) (hj : j < ds.length) (hk : K (upd μ a (ds.set j d))) :
    W3 W n setItem (.ref a) (.int k) d μ K := fun A h₀ s v1 v2 v3 o r1 r2 r3 => by
  cases r1; cases r2
  obtain ⟨ob, vs, ne, ho, hc, hdn, hd, rs⟩ := id (o.led.lst a ds ha)
  have hsz : vs.size = ds.length := by simpa using rs.length
  obtain ⟨n', hd'⟩ := Obj.data_mapSeq hd (·.setIfInBounds j v3)
  refine setItem_at ho hc hd hfit (by rw [hsz]; exact hidx) (by rw [hsz]; exact hj) ?_
  have := write_led o.keep o.led ha (ds' := ds.set j d) (Heap.SameBut.update s.heap a (Obj.mapSeq (·.setIfInBounds j v3))) fun tk =>
    ⟨_, _, n', Heap.get?_update_self _ ho (Obj.isFreed_of_seq hd'), (Obj.cls_mapSeq ..).trans hc, (Obj.dict_mapSeq _ _).trans hdn, hd', by simpa using (rs.set r3 j).mono tk⟩
  exact ⟨this.1, this.2.1, _, hk, this.2.2⟩
theorem Wc.append {a : Addr} {ds : List D} {d : D} {K : D → Led → Prop} (ha : μ a = some ds) (hz : ds.length ≤ sizeLine) (hk : K .none (upd μ a (ds ++ [d]))) : Wc W n (.builtin "list.append") [.ref a, d] μ K := fun A h₀ s vs o r => by
  obtain ⟨v, w, rfl, r1, r2⟩ := reps2 r; cases r1
  obtain ⟨ob, vs, ne, ho, hc, hdn, hd, rs⟩ := id (o.led.lst a ds ha)
  have hsz : vs.size ≤ sizeLine := by have : vs.size = ds.length := (by simpa using rs.length); omega
  obtain ⟨n', hd'⟩ := Obj.data_mapSeq hd (·.push w)
  have hl : s.heap.IsList a vs := ⟨ob, ho, hc, ne, hd⟩
  refine wpAny_call_entry slot_list_append hl.typeIs entry_list_append ?_ (args_list_append _ _)
  show wpAny _ _ (updateSeq a (·.push w) >>= fun _ => ret .none) _ _ s
  refine wpAny_bind ?_
  refine wpAny_updateSeq ho hd (wpAny_pure ⟨.none, rfl, ?_⟩)
  have := write_led o.keep o.led ha (ds' := ds ++ [d]) (Heap.SameBut.update s.heap a (Obj.mapSeq (·.push w))) fun tk =>
    ⟨_, _, n', Heap.get?_update_self _ ho (Obj.isFreed_of_seq hd'), (Obj.cls_mapSeq ..).trans hc, (Obj.dict_mapSeq _ _).trans hdn, hd', by simpa using (rs.append (.cons r2 .nil)).mono tk⟩
  exact ⟨this.1, this.2.1, _, _, hk, .val _, this.2.2⟩
end
end Mine

namespace Mine
open PySem PySem.Calls
/-- what an iterator is made of -/
noncomputable def Aux (o : Obj) : Prop := (o.cls ≠ .type "list" ∧ ∃ fs, o.data = .fields fs) ∨ (o.cls = .type "tuple" ∧ ∃ vs n, o.data = .seq vs n)
theorem Aux.not_dict {o : Obj} (a : Aux o) {es ep} (h : o.data = .dict es ep) : False := by
  rcases a with ⟨_, _, q⟩ | ⟨_, _, _, q⟩ <;> rw [h] at q <;> cases q
theorem Aux.not_cell {o : Obj} (a : Aux o) {w} (h : o.data = .cell w) : False := by
  rcases a with ⟨_, _, q⟩ | ⟨_, _, _, q⟩ <;> rw [h] at q <;> cases q
theorem Aux.not_list {o : Obj} (a : Aux o) (h : o.cls = .type "list") : False := by
  rcases a with ⟨q, _⟩ | ⟨q, _⟩
  · exact q h
  · rw [h] at q; exact absurd q (by decide)

/-! ## Ground for a turn: the frame's own objects are hidden -/
noncomputable def ownCell (e : Env) (ns : List Str) (b : Addr) : Bool := ns.any fun x => (e.kindOf x == some .cell) && (e.cells.lookup x == some b) && decide (e.locals < b)
noncomputable def hidden (e : Env) (ns : List Str) (μ : Led) (b : Addr) : Bool := decide (b = e.locals) || ownCell e ns b || (μ b).isSome
noncomputable def turnGround (e : Env) (ns : List Str) (μ : Led) (s : Shared) : Heap := hide s.heap (hidden e ns μ)
section
variable {h₀ : Heap} {e : Env} {ns : List Str} {ds : List (Option D)} {μ : Led} {s : Shared}
theorem ownCell_iff {b : Addr} (h : ownCell e ns b = true) : ∃ x ∈ ns, e.kindOf x = some .cell ∧ e.cells.lookup x = some b ∧ e.locals < b := by
  obtain ⟨x, hx, q⟩ := List.any_eq_true.mp h
  simp only [Bool.and_eq_true, beq_iff_eq, decide_eq_true_eq] at q
  exact ⟨x, hx, q.1.1, q.1.2, q.2⟩
theorem ownCell_of {x : Str} {b : Addr} (hx : x ∈ ns) (h1 : e.kindOf x = some .cell) (h2 : e.cells.lookup x = some b) (h3 : e.locals < b) : ownCell e ns b = true :=
  List.any_eq_true.mpr ⟨x, hx, by simp [h1, h2, h3]⟩
/-- what is hidden is a dict, a cell or a list of the ledger -/
theorem St.hid (x : St h₀ e ns ds μ s) {b : Addr} {o : Obj} (hb : hidden e ns μ b = true) (ho : s.heap.get? b = some o) : h₀.get? b = none ∧ ((∃ es ep, o.data = .dict es ep) ∨ (∃ w, o.data = .cell w) ∨ (o.cls = .type "list" ∧ ∃ vs n, o.data = .seq vs n)) := by
  simp only [hidden, Bool.or_eq_true, decide_eq_true_eq] at hb
  rcases hb with (rfl | hb) | hb
  · obtain ⟨m, ⟨o', es, ep, ho', hd, _⟩, _⟩ := x.loc
    rw [ho] at ho'; cases ho'
    exact ⟨x.Lnew, .inl ⟨es, ep, hd⟩⟩
  · obtain ⟨y, hy, h1, h2, h3⟩ := ownCell_iff hb
    obtain ⟨w, ⟨o', ho', hd⟩, _, a3⟩ := x.cel y b hy h1 h2
    rw [ho] at ho'; cases ho'
    exact ⟨a3 h3, .inr (.inl ⟨w, hd⟩)⟩
  · obtain ⟨xs, q⟩ := Option.isSome_iff_exists.mp hb
    obtain ⟨o', vs, n, ho', hc, _, hd, _⟩ := x.led.lst b xs q
    rw [ho] at ho'; cases ho'
    exact ⟨x.led.new b xs q, .inr (.inr ⟨hc, vs, n, hd⟩)⟩
theorem St.shown (x : St h₀ e ns ds μ s) {b : Addr} {o : Obj} (ho : s.heap.get? b = some o) (hd : Aux o) : (turnGround e ns μ s).get? b = some o := by
  refine (hide_some ?_).trans ho
  cases q : hidden e ns μ b with
  | false => rfl
  | true =>
    rcases (x.hid q ho).2 with ⟨_, _, h⟩ | ⟨_, h⟩ | ⟨hc, _, _, h⟩
    · exact (hd.not_dict h).elim
    · exact (hd.not_cell h).elim
    · exact (hd.not_list hc).elim
theorem St.base (x : St h₀ e ns ds μ s) : Kept h₀ (turnGround e ns μ s) := fun b o q => by
  have ho := x.keep b o q
  refine (hide_some ?_).trans ho
  cases z : hidden e ns μ b with
  | false => rfl
  | true => rw [(x.hid z ho).1] at q; cases q
theorem St.turn (x : St h₀ e ns ds μ s) : St (turnGround e ns μ s) e ns ds μ s where
  loc := x.loc
  cel := fun y c q1 q2 q3 => by
    obtain ⟨w, a1, a2, a3⟩ := x.cel y c q1 q2 q3
    exact ⟨w, a1, a2, fun h => hide_none (by simp [hidden, ownCell_of q1 q2 q3 h])⟩
  keep := hide_kept _ _
  Lnew := hide_none (by simp [hidden])
  led := ⟨x.led.lst, fun a xs q => hide_none (by simp [hidden, q])⟩
theorem get_none_of {h h' : Heap} (k : Kept h h') {a : Addr} (e : h'.get? a = none) : h.get? a = none := by
  cases q : h.get? a with
  | none => rfl
  | some o => rw [k a o q] at e; cases e
theorem St.weaken {h₁ : Heap} (x : St h₁ e ns ds μ s) (k : Kept h₀ h₁) : St h₀ e ns ds μ s where
  loc := x.loc
  cel := fun y c q1 q2 q3 => let ⟨w, a1, a2, a3⟩ := x.cel y c q1 q2 q3; ⟨w, a1, a2, fun h => get_none_of k (a3 h)⟩
  keep := k.trans x.keep
  Lnew := get_none_of k x.Lnew
  led := ⟨x.led.lst, fun a xs q => get_none_of k (x.led.new a xs q)⟩
/-- only what an iterator is made of has changed -/
theorem St.offwr (x : St h₀ e ns ds μ s) {wr : List Addr} (hw : ∀ b ∈ wr, ∃ o, s.heap.get? b = some o ∧ Aux o) (hn : ∀ b ∈ wr, h₀.get? b = none) {h : Heap} {tk : Nat}
    (tk' : TupKeep s.heap h) (k : ∀ b o, b ∉ wr → s.heap.get? b = some o → h.get? b = some o) : St h₀ e ns ds μ { s with heap := h, toks := tk } := by
  have off : ∀ b o, s.heap.get? b = some o → ¬ Aux o → h.get? b = some o := fun b o q hd => k b o (fun hb => by
    obtain ⟨o', q', hd'⟩ := hw b hb
    rw [q] at q'; cases q'
    exact hd hd') q
  refine ⟨?_, fun y c q1 q2 q3 => ?_, fun b o q => k b o (fun hb => by rw [hn b hb] at q; cases q) (x.keep b o q), x.Lnew, ⟨fun a xs q => ?_, x.led.new⟩⟩
  · obtain ⟨m, ⟨o, es, ep, ho, hd, r⟩, hv⟩ := x.loc
    exact ⟨m, ⟨o, es, ep, off _ o ho (fun z => z.not_dict hd), hd, r⟩, fun y d q c => let ⟨v, e1, e2⟩ := hv y d q c; ⟨v, e1, e2.mono tk'⟩⟩
  · obtain ⟨w, ⟨o, ho, hd⟩, a2, a3⟩ := x.cel y c q1 q2 q3
    exact ⟨w, ⟨o, off _ o ho (fun z => z.not_cell hd), hd⟩, fun d q => let ⟨v, e1, e2⟩ := a2 d q; ⟨v, e1, e2.mono tk'⟩, a3⟩
  · obtain ⟨o, vs, n, ho, hc, hdn, hd, r⟩ := x.led.lst a xs q
    exact ⟨o, vs, n, off _ o ho (fun z => z.not_list hc), hc, hdn, hd, r.mono tk'⟩
theorem St.offwr' (x : St h₀ e ns ds μ s) {wr : List Addr} (hw : ∀ b ∈ wr, ∃ o, s.heap.get? b = some o ∧ Aux o) (hn : ∀ b ∈ wr, h₀.get? b = none) {s' : Shared} (st : Stp s s')
    (k : ∀ b o, b ∉ wr → s.heap.get? b = some o → s'.heap.get? b = some o) : St h₀ e ns ds μ s' := by
  obtain ⟨⟨H, tk, rfl⟩, tk1⟩ := st
  exact x.offwr hw hn tk1 k
end

/-! ## What is gone through -/
structure Iter (W : GW) (n : Nat) (it : Value) (t : Expr) (src : Led → Prop) (xs : List D) (wr : List Addr) (It : Nat → Heap → Prop) : Prop where
  frame : ∀ i h h', It i h → (∀ b ∈ wr, ∀ o, h.get? b = some o → h'.get? b = some o) → It i h'
  flds : ∀ i h b, It i h → b ∈ wr → ∃ o, h.get? b = some o ∧ Aux o
  next : ∀ A h₀ μ s i x, Oo W n A h₀ μ s → src μ → It i s.heap → xs[i]? = some x → (∀ b ∈ wr, h₀.get? b = none) →
    wpAny (model W.prog W.w) A (pyNext it) (fun r s' => ∃ v, r = some v ∧ wpAny (model W.prog W.w) A (letOwnedTupleGo t it v) (fun _ s'' =>
      Stp s s'' ∧ RepT s''.heap v x ∧ It (i + 1) s''.heap ∧ ∀ b o, b ∉ wr → s.heap.get? b = some o → s''.heap.get? b = some o) Nev s') Nev s
  done : ∀ A h₀ μ s, Oo W n A h₀ μ s → src μ → It xs.length s.heap → (∀ b ∈ wr, h₀.get? b = none) →
    wpAny (model W.prog W.w) A (pyNext it) (fun r s' => r = none ∧ Stp s s' ∧ ∀ b o, b ∉ wr → s.heap.get? b = some o → s'.heap.get? b = some o) Nev s
  self : ∀ A i s (Q : Value → Shared → Prop) (E : Value → Shared → Prop), It i s.heap → Q it s → wpAny (model W.prog W.w) A (pyIter it) Q E s

structure Pi (F : Fm) (t : Expr) (h₀ : Heap) (ds : List (Option D)) (K : List D → (Led → Prop) → Led → Prop) (s : Shared) (it : Value) (s' : Shared) : Prop where
  stp : Stp s s'
  out : ∃ xs src μ' wr It, K xs src μ' ∧ Iter F.W F.n it t src xs wr It ∧ It 0 s'.heap ∧ (∀ b ∈ wr, h₀.get? b = none) ∧ St h₀ F.e F.ns ds μ' s'
noncomputable def Wit (F : Fm) (x : Expr) (t : Expr) (ds : List (Option D)) (μ : Led) (K : List D → (Led → Prop) → Led → Prop) : Prop :=
  ∀ A h₀ s, Ok F A h₀ ds μ s → wpAny (model F.W.prog F.W.w) A (eval x F.e) (fun v s₁ => wpAny (model F.W.prog F.W.w) A (pyIter v) (Pi F t h₀ ds K s) Nev s₁) Nev s

section
variable {F : Fm} {ds : List (Option D)} {μ : Led} {K : Flw → List (Option D) → Led → Prop}

/-- the turns of a for: the machine's loop with the owned tuple -/
theorem forLoop_turns {A : Around} {R : Result → Shared → Prop} {target it body env} {s : Shared} (I : Nat → Shared → Prop)
    (turn : ∀ n s, I n s → wpAny (model F.W.prog F.W.w) A (pyNext it) (fun r s₁ => match r with
      | none => R (.ok .next) s₁
      | some v => wpAny (model F.W.prog F.W.w) A (letOwnedTupleGo target it v) (fun _ s₁ => wpAny (model F.W.prog F.W.w) A (assign target env v) (fun _ s₂ => wpAny (model F.W.prog F.W.w) A (execs body env) (fun f s₃ => match f with
          | .next | .cont => ∃ m, m < n ∧ I m s₃
          | .brk => R (.ok .next) s₃
          | .ret v => R (.ok (.ret v)) s₃) Nev s₂) Nev s₁) Nev s₁) Nev s)
    (n : Nat) (h : I n s) : codeAny (model F.W.prog F.W.w) A (.forLoop target it body [] env) R s := by
  refine codeAny_loop' rfl I (fun n s hI => ?_) n h
  show wpAny _ A ((forTurn target it body [] env).onRaise (fun x => do noteFrame x env; theTreesLotGoes x)) _ _ s
  refine wpAny_noted ?_
  simp only [forTurn]
  refine wpAny_bind (wpAny_standAt (wpAny_bind (wpAny_onRaise (wpAny_mono (turn n s hI) (fun r s₁ h₁ => ?_) fun _ _ h' => h'.elim))))
  cases r with
  | none => exact wpAny_pure (.inr ⟨rfl, codeAny_block (wpAny_execs_nil h₁)⟩)
  | some v =>
    refine wpAny_bind (wpA h₁ fun _ s₁ h₁ => ?_)
    refine wpAny_bind (wpA h₁ fun _ s₂ h₂ => wpAny_bind (wpA h₂ fun f s₃ h₃ => ?_))
    cases f with
    | next => exact wpAny_pure (.inl ⟨rfl, h₃⟩)
    | cont => exact wpAny_pure (.inl ⟨rfl, h₃⟩)
    | brk => exact wpAny_pure h₃
    | ret v => exact wpAny_pure h₃

/-- what a turn leaves -/
noncomputable def turnK (J : List (Option D) → Led → Prop) (K : Flw → List (Option D) → Led → Prop) : Flw → List (Option D) → Led → Prop
  | .next, ds, μ => J ds μ
  | .cont, ds, μ => J ds μ
  | .brk, ds, μ => K .next ds μ
  | .ret d, ds, μ => K (.ret d) ds μ

theorem We.for_ {t it : Expr} {body : List Stmt} {p : Pos} (hs : ∀ env x, foldedSetIterable it env x = pure x)
    (h : Wit F it t ds μ fun xs src μ' => ∃ J : Nat → List (Option D) → Led → Prop, J 0 ds μ' ∧ (∀ i ds μ, J i ds μ → src μ) ∧
      (∀ i x ds1 μ1, xs[i]? = some x → J i ds1 μ1 → Wa F t x ds1 μ1 fun ds2 μ2 => Ws F body ds2 μ2 (turnK (J (i + 1)) K)) ∧
      (∀ ds1 μ1, J xs.length ds1 μ1 → K .next ds1 μ1)) : We F (.For t it body [] p) ds μ K := fun A h₀ s ok =>
  wpAny_For (wpAny_mono (h A h₀ s ok) (fun v s₁ h₁ => wpA h₁ fun itv s₂ p2 => by
    obtain ⟨st2, xs, src, μ2, wr, It, ⟨J, hJ0, hsrc, turn, fin⟩, W, hI, hnew, S2⟩ := p2
    refine forLoop_turns (F := F) (fun k s' => ∃ i ds1 μ1, k = xs.length + 1 - i ∧ i ≤ xs.length ∧ J i ds1 μ1 ∧ Stp s s' ∧ It i s'.heap ∧ St h₀ F.e F.ns ds1 μ1 s') ?_ (xs.length + 1)
      ⟨0, ds, μ2, rfl, Nat.zero_le _, hJ0, st2, hI, S2⟩
    rintro k s' ⟨i, ds1, μ1, rfl, hi, hJ, st, hIt, S⟩
    have ok1 : Ok F A h₀ ds1 μ1 s' := ok.to S
    have hng : ∀ b ∈ wr, (ground s' μ1).get? b = none → True := fun _ _ _ => trivial
    have S' := S.turn
    have G : F.W.Glb (turnGround F.e F.ns μ1 s') := F.W.keeps ok.g S.base
    -- the base for the walk: the iterator hidden too
    let hb : Heap := hide (turnGround F.e F.ns μ1 s') fun b => decide (b ∈ wr)
    have hbk : Kept hb s'.heap := (hide_kept _ _).trans S'.keep
    have h0b : Kept h₀ hb := fun b o q => (hide_some (by
      cases z : decide (b ∈ wr) with
      | false => rfl
      | true => rw [hnew b (of_decide_eq_true z)] at q; cases q)).trans (S.base b o q)
    have oo : Oo F.W F.n A hb μ1 s' := ⟨ok.a, F.W.keeps ok.g h0b, hbk, ⟨S.led.lst, fun a ys q => get_none_of (hide_kept _ _) (S'.led.new a ys q)⟩⟩
    have hbn : ∀ b ∈ wr, hb.get? b = none := fun b hb' => hide_none (decide_eq_true hb')
    by_cases hlt : i < xs.length
    · refine wpA (W.next A hb μ1 s' i xs[i] oo (hsrc _ _ _ hJ) hIt (by simp [hlt]) hbn) fun r s₁ hr => ?_
      obtain ⟨v, rfl, hr⟩ := hr
      refine wpA hr fun _ s₁ hr => ?_
      obtain ⟨st1, rv, hIt1, k1⟩ := hr
      have S1 := S.offwr' (fun b hb => W.flds i _ b hIt hb) hnew st1 k1
      have St1 := S1.turn
      have okT : Ok F A (turnGround F.e F.ns μ1 s₁) ds1 μ1 s₁ := ⟨ok.a, F.W.keeps ok.g S1.base, ok.e, St1⟩
      refine wpA (turn i xs[i] ds1 μ1 (by simp [hlt]) hJ A _ _ v okT rv) fun _ s₂ p2 => ?_
      refine p2.el fun st2 ds2 μ2 k2 S2 => ?_
      refine wpA (k2 A _ s₂ (okT.to S2)) fun f s₃ p3 => ?_
      refine p3.el fun st3 g ds3 μ3 k3 fr S3 => ?_
      have stt := (st.trans st1).trans (st2.trans st3)
      have S3' := S3.weaken S1.base
      have hI3 : It (i + 1) s₃.heap := W.frame _ _ _ hIt1 fun b hb o q => by
        obtain ⟨o', q', hd⟩ := W.flds _ _ b hIt1 hb
        rw [q] at q'; cases q'
        exact S3.keep b o (S1.shown q hd)
      cases fr with
      | next => exact ⟨xs.length + 1 - (i + 1), turn_lt hlt, i + 1, ds3, μ3, rfl, hlt, k3, stt, hI3, S3'⟩
      | cont => exact ⟨xs.length + 1 - (i + 1), turn_lt hlt, i + 1, ds3, μ3, rfl, hlt, k3, stt, hI3, S3'⟩
      | brk => exact ⟨stt, .next, ds3, μ3, k3, .next, S3'⟩
      | ret r => exact ⟨stt, .ret _, ds3, μ3, k3, .ret r, S3'⟩
    · have hii : i = xs.length := Nat.le_antisymm hi (Nat.le_of_not_lt hlt)
      subst hii
      refine wpA (W.done A hb μ1 s' oo (hsrc _ _ _ hJ) hIt hbn) fun r s₁ hr => ?_
      obtain ⟨rfl, st1, k1⟩ := hr
      exact ⟨st.trans st1, .next, ds1, μ1, fin _ _ hJ, .next, S.offwr' (fun b hb => W.flds _ _ b hIt hb) hnew st1 k1⟩) fun _ _ x => x.elim) (hs _)

theorem We.while_ {t : Expr} {body : List Stmt} {p : Pos} (J : Nat → List (Option D) → Led → Prop) {m : Nat} (h0 : J m ds μ)
    (turn : ∀ m ds1 μ1, J m ds1 μ1 → Wt F t ds1 μ1 fun b μ2 => if b then Ws F body ds1 μ2 (turnK (fun ds3 μ3 => ∃ m', m' < m ∧ J m' ds3 μ3) K) else K .next ds1 μ2) : We F (.While t body [] p) ds μ K := fun A h₀ s ok =>
  wpAny_While (codeAny_whileLoop (fun k s' => ∃ ds1 μ1, J k ds1 μ1 ∧ Stp s s' ∧ St h₀ F.e F.ns ds1 μ1 s') (fun k s' hk => by
    obtain ⟨ds1, μ1, hJ, st, S⟩ := hk
    refine wpA (turn k ds1 μ1 hJ A h₀ s' (ok.to S)) fun b s₁ p1 => ?_
    refine p1.el fun st1 μ2 k1 S1 => ?_
    cases b with
    | false => exact wpAny_execs_nil ⟨st.trans st1, .next, ds1, μ2, k1, .next, S1⟩
    | true =>
      refine wpA (k1 A h₀ s₁ (ok.to S1)) fun f s₂ p2 => ?_
      refine p2.el fun st2 g ds3 μ3 k3 fr S3 => ?_
      have stt := (st.trans st1).trans st2
      cases fr with
      | next => obtain ⟨m', hm, hJ'⟩ := k3; exact ⟨m', hm, ds3, μ3, hJ', stt, S3⟩
      | cont => obtain ⟨m', hm, hJ'⟩ := k3; exact ⟨m', hm, ds3, μ3, hJ', stt, S3⟩
      | brk => exact ⟨stt, .next, ds3, μ3, k3, .next, S3⟩
      | ret r => exact ⟨stt, .ret _, ds3, μ3, k3, .ret r, S3⟩) m ⟨ds, μ, h0, .refl s, ok.st⟩)
end
end Mine

namespace Mine
open PySem PySem.Calls
/-! ## Comprehensions -/
theorem St.other {h₀ : Heap} {e : Env} {ns : List Str} {ds : List (Option D)} {μ μ' : Led} {s s' : Shared} (x : St h₀ e ns ds μ s) {p : Addr → Bool} (hb : ∀ b, p b = true → h₀.get? b = none) (hL : p e.locals = false)
    (hc : ∀ y c, y ∈ ns → e.kindOf y = some .cell → e.cells.lookup y = some c → p c = false) (st : Stp s s') (k : Kept (hide s.heap p) s'.heap) (l : LedOk (hide s.heap p) μ' s'.heap) : St h₀ e ns ds μ' s' where
  loc := by
    obtain ⟨m, ⟨o, es, ep, ho, hd, r⟩, hv⟩ := x.loc
    exact ⟨m, ⟨o, es, ep, k _ _ ((hide_some hL).trans ho), hd, r⟩, fun y d q c => let ⟨v, e1, e2⟩ := hv y d q c; ⟨v, e1, e2.mono st.tup⟩⟩
  cel := fun y c q1 q2 q3 => by
    obtain ⟨w, ⟨o, ho, hd⟩, a2, a3⟩ := x.cel y c q1 q2 q3
    exact ⟨w, ⟨o, k _ _ ((hide_some (hc y c q1 q2 q3)).trans ho), hd⟩, fun d q => let ⟨v, e1, e2⟩ := a2 d q; ⟨v, e1, e2.mono st.tup⟩, a3⟩
  keep := fun b o q => k b o ((hide_some (by
    cases z : p b with
    | false => rfl
    | true => rw [hb b z] at q; cases q)).trans (x.keep b o q))
  Lnew := x.Lnew
  led := ⟨l.lst, fun a ys q => by
    cases q' : h₀.get? a with
    | none => rfl
    | some o =>
      have := l.new a ys q
      rw [hide_some (by
        cases z : p a with
        | false => rfl
        | true => rw [hb a z] at q'; cases q'), x.keep a o q'] at this
      cases this⟩
theorem St.add {h₀ : Heap} {e : Env} {ns : List Str} {ds : List (Option D)} {μ : Led} {s : Shared} (x : St h₀ e ns ds μ s) {a : Addr} {ys : List D} (hl : LstAt s.heap a ys) (hn : h₀.get? a = none) : St h₀ e ns ds (upd μ a ys) s :=
  { x with led := ⟨fun b zs q => by
      by_cases hb : b = a
      · subst hb; rw [upd_same] at q; cases q; exact hl
      · rw [upd_ne μ ys hb] at q; exact x.led.lst b zs q, fun b zs q => by
      by_cases hb : b = a
      · subst hb; exact hn
      · rw [upd_ne μ ys hb] at q; exact x.led.new b zs q⟩ }

/-- the closure's cells -/
theorem closureFor_of {scope : Scope} {env : Env} (h : ∀ p ∈ scope.names, p.2 = .free → ∃ c, env.cells.lookup p.1 = some c) :
    ∃ cl, closureFor scope env = pure cl ∧ (∀ x c, cl.lookup x = some c → env.cells.lookup x = some c) ∧ ∀ p ∈ scope.names, p.2 = .free → ∃ c, cl.lookup p.1 = some c := by
  have key : ∀ (names : List (Str × NameKind)) (acc : List (Str × Addr)), (∀ p ∈ names, p.2 = .free → ∃ c, env.cells.lookup p.1 = some c) → (∀ x c, acc.lookup x = some c → env.cells.lookup x = some c) →
      ∃ cl, (forIn names acc fun p cs => if p.2 == .free then (do let c ← cellOf env p.1; pure (.yield ((p.1, c) :: cs))) else pure (.yield cs) : Sem (List (Str × Addr))) = pure cl ∧ (∀ x c, cl.lookup x = some c → env.cells.lookup x = some c) ∧
        (∀ x, (∃ c, acc.lookup x = some c) → ∃ c, cl.lookup x = some c) ∧ ∀ p ∈ names, p.2 = .free → ∃ c, cl.lookup p.1 = some c := by
    intro names
    induction names with
    | nil => intro acc _ ha; exact ⟨acc, rfl, ha, fun _ q => q, fun _ q => by cases q⟩
    | cons p r ih =>
      intro acc hf ha
      obtain ⟨n, k⟩ := p
      by_cases hk : k = .free
      · subst hk
        obtain ⟨c, hc⟩ := hf (n, .free) (.head _) rfl
        obtain ⟨cl, e1, e2, e3, e4⟩ := ih ((n, c) :: acc) (fun q hq => hf q (.tail _ hq)) (fun x c' q => by
          rw [List.lookup_cons] at q
          cases hx : x == n with
          | true => rw [hx] at q; cases q; rw [beq_iff_eq.mp hx]; exact hc
          | false => rw [hx] at q; exact ha x c' q)
        refine ⟨cl, ?_, e2, fun x q => e3 x ?_, fun q hq hqf => ?_⟩
        · rw [List.forIn_cons]
          have : cellOf env n = pure c := by unfold cellOf; rw [hc]
          simp only [beq_self_eq_true, if_true, this]
          exact e1
        · rw [List.lookup_cons]
          cases hx : x == n with
          | true => exact ⟨c, rfl⟩
          | false => exact q
        · rcases List.mem_cons.mp hq with rfl | hq
          · exact e3 n ⟨c, by simp [List.lookup_cons]⟩
          · exact e4 q hq hqf
      · obtain ⟨cl, e1, e2, e3, e4⟩ := ih acc (fun q hq => hf q (.tail _ hq)) ha
        refine ⟨cl, ?_, e2, e3, fun q hq hqf => ?_⟩
        · rw [List.forIn_cons]
          have : (k == NameKind.free) = false := by simpa using hk
          simp only [this, Bool.false_eq_true, if_false]
          exact e1
        · rcases List.mem_cons.mp hq with rfl | hq
          · exact absurd hqf hk
          · exact e4 q hq hqf
  obtain ⟨cl, e1, e2, _, e4⟩ := key scope.names [] h (fun _ _ q => by cases q)
  refine ⟨cl, ?_, e2, e4⟩
  unfold closureFor
  show (forIn scope.names [] _ >>= fun cs => pure cs : Sem _) = _
  have : (forIn scope.names [] fun p cs => if p.2 == .free then (do let c ← cellOf env p.1; pure (.yield ((p.1, c) :: cs))) else pure (.yield cs) : Sem (List (Str × Addr))) = pure cl := e1
  have h2 : (forIn scope.names [] (fun (x : Str × NameKind) (r : List (Str × Addr)) => match x with | (name, kind) => if (kind == NameKind.free) = true then (do let c ← cellOf env name; pure (ForInStep.yield ((name, c) :: r))) else pure (ForInStep.yield r)) : Sem (List (Str × Addr))) = pure cl := this
  first
    | exact (congrArg (fun t => t >>= fun cs => (pure cs : Sem _)) h2)
    | (simp only [bind_pure]; exact h2)

theorem cellsFrom_acc : ∀ (names : List (Str × NameKind)) (n : Nat) (acc : List (Str × Addr)), cellsFrom n names acc = cellsFrom n names [] ++ acc
  | [], _, _ => rfl
  | (x, k) :: r, n, acc => by
    unfold cellsFrom
    split
    · rw [cellsFrom_acc r (n + 1) ((x, n) :: acc), cellsFrom_acc r (n + 1) [(x, n)], List.append_assoc]; rfl
    · exact cellsFrom_acc r n acc
theorem cellsFrom_has : ∀ (names : List (Str × NameKind)) (n : Nat) {x : Str}, names.lookup x = some .cell → ∃ c, (cellsFrom n names []).lookup x = some c
  | [], _, _, h => by cases h
  | (y, k) :: r, n, x, h => by
    rw [List.lookup_cons] at h
    unfold cellsFrom
    cases hx : x == y with
    | true =>
      rw [hx] at h; cases h
      simp only [beq_self_eq_true, if_true]
      rw [cellsFrom_acc]
      cases q : (cellsFrom (n + 1) r []).lookup x with
      | some c => exact ⟨c, by rw [List.lookup_append, q]; rfl⟩
      | none => exact ⟨n, by rw [List.lookup_append, q]; simp [List.lookup_cons, hx]⟩
    | false =>
      rw [hx] at h
      split
      · rw [cellsFrom_acc]
        obtain ⟨c, q⟩ := cellsFrom_has r (n + 1) h
        exact ⟨c, by rw [List.lookup_append, q]; rfl⟩
      · exact cellsFrom_has r n h
theorem cellsFrom_names' : ∀ (names : List (Str × NameKind)) (n : Nat) {x : Str} {c : Addr}, (x, c) ∈ cellsFrom n names [] → (x, NameKind.cell) ∈ names
  | [], _, _, _, h => by cases h
  | (y, k) :: r, n, x, c, h => by
    unfold cellsFrom at h
    split at h
    · rename_i hk
      rw [cellsFrom_acc] at h
      rcases List.mem_append.mp h with h | h
      · exact .tail _ (cellsFrom_names' r (n + 1) h)
      · have := List.mem_singleton.mp h
        cases this
        rw [show k = .cell from by simpa using hk]
        exact .head _
    · exact .tail _ (cellsFrom_names' r n h)

theorem newEnv_comp {M : Model} {A : Around} {E : Value → Shared → Prop} {s : Shared} {scope : Scope} {globals : Addr} {cl : List (Str × Addr)} {qual : Str} {env : Env} {Q : Env → Shared → Prop}
    (h : Q { scope := scope, locals := s.heap.objs.size, globals := globals, cells := cellsFrom (s.heap.objs.size + 1) scope.names cl, qual := qual, func := none, code := env.code, frame := env.frame, builtins := env.builtins }
      { s with heap := pushCells (s.heap.push { cls := .type "dict", data := .dict #[] }) scope.names }) :
    wpAny M A (newFunctionEnv scope globals cl [] qual none .none (some env)) Q E s := by
  simp only [newFunctionEnv, Option.isSome_some, if_true]
  refine wpAny_bind (wpAny_alloc ?_)
  refine wpAny_bind (wpAny_layCells _ (fun name kind cells => by cases hkc : kind == NameKind.cell <;> simp [hkc]) _ _ _ _ ?_)
  rw [show ({ s with heap := s.heap.push { cls := .type "dict", data := .dict #[] } } : Shared).heap.objs.size = s.heap.objs.size + 1 from Heap.size_push ..]
  exact wpAny_bind (wpAny_pure (wpAny_pure h))

theorem lookup_relabel {scope : Scope} {env : Env} (hk : env.scope.kind = .function) : ∀ (names : List (Str × NameKind)) (x : Str),
    (names.map fun (n, k) => if (k == NameKind.free && env.scope.kind == .function && env.kindOf n == some .cell) then (n, NameKind.cell) else (n, k)).lookup x =
      (names.lookup x).map fun k => if k == .free && env.kindOf x == some .cell then .cell else k := by
  intro names
  induction names with
  | nil => exact fun _ => rfl
  | cons nk r ih =>
    obtain ⟨n, k⟩ := nk
    intro x
    have ih := ih x
    simp only [List.map_cons]
    rw [List.lookup_cons (as := r)]
    cases hx : x == n with
    | true =>
      have := beq_iff_eq.mp hx
      subst this
      by_cases hc : (k == NameKind.free && env.scope.kind == .function && env.kindOf x == some .cell) = true
      · rw [if_pos hc]
        simp only [Bool.and_eq_true] at hc
        have hk' : k = .free := by simpa using hc.1.1
        subst hk'
        simp [hc.2]
      · rw [if_neg hc]
        simp only [Bool.and_eq_true, not_and] at hc
        simp only [List.lookup_cons, beq_self_eq_true, Option.map_some]
        by_cases h1 : k == NameKind.free
        · have := hc ⟨h1, by rw [hk]; rfl⟩
          simp [h1, this]
        · simp [h1]
    | false =>
      by_cases hc : (k == NameKind.free && env.scope.kind == .function && env.kindOf n == some .cell) = true
      · rw [if_pos hc, List.lookup_cons, hx]; exact ih
      · rw [if_neg hc, List.lookup_cons, hx]; exact ih

/-- what is asked of a comprehension's scope: all to be looked at in the text -/
structure CompOk (F : Fm) (scope : Scope) (cns cro : List Str) (cgs : List (Str × D)) : Prop where
  kind : scope.kind = .function
  names : ∀ x ∈ scope.names, x.2 = .local → scope.names.lookup x.1 = some .local
  free : ∀ p ∈ scope.names, p.2 = .free → p.1 ∈ F.ns ∧ F.e.kindOf p.1 = some .cell
  nd : cns.Nodup
  loc : ∀ x ∈ cns, (x == ("__debug__" : Str)) = false ∧ ((x ∉ cro ∧ (scope.names.lookup x = some .local ∨ scope.names.lookup x = some .cell)) ∨ (x ∈ cro ∧ (x, NameKind.free) ∈ scope.names ∧ scope.names.lookup x = some .free ∧ (x, NameKind.cell) ∉ scope.names))
  gl : ∀ p ∈ cgs, (p.1 == ("__debug__" : Str)) = false ∧ scope.names.lookup p.1 = some .globalImplicit ∧ ∃ v, F.W.gval p.1 v ∧ ∀ h, F.W.Glb h → Rep h v p.2
  inter : (scope.kind == .module && scope.more.any fun (n, _) => n == ("interactive" : Str)) = false

/-- tests of a comprehension -/
noncomputable def Wq (F : Fm) (ifs : List Expr) (ds : List (Option D)) (μ : Led) (K : Bool → Led → Prop) : Prop :=
  ∀ A h₀ s, Ok F A h₀ ds μ s → wpAny (model F.W.prog F.W.w) A (forIn ifs true fun c r => if r = true then do let ok ← isTrue c F.e (eval c F.e); pure (ForInStep.yield ok) else pure (ForInStep.yield r)) (Pb F h₀ ds K s) Nev s
theorem Wq.nil {F : Fm} {ds : List (Option D)} {μ : Led} {K : Bool → Led → Prop} (k : K true μ) : Wq F [] ds μ K := fun _ _ s ok => wpAny_tests_nil ⟨.refl s, μ, k, ok.st⟩
theorem Wq.one {F : Fm} {ds : List (Option D)} {μ : Led} {c : Expr} {K : Bool → Led → Prop} (h : Wt F c ds μ K) : Wq F [c] ds μ K := fun A h₀ s ok => wpAny_tests_one (h A h₀ s ok)

theorem compLoop_turns {W : GW} {A : Around} {R : Result → Shared → Prop} {s : Shared} {elt target iter : Expr} {ifs : List Expr} {scope : Scope} {pos : Pos} {it acc : Value} {env : Env} (I : Nat → Shared → Prop)
    (turn : ∀ n s, I n s → wpAny (model W.prog W.w) A (pyNext it) (fun r s₁ => match r with
      | none => R (.ok .next) s₁
      | some v => wpAny (model W.prog W.w) A (letOwnedTupleGo target it v) (fun _ s₁ => wpAny (model W.prog W.w) A (assign target env v) (fun _ s₂ =>
          wpAny (model W.prog W.w) A (forIn ifs true fun c r => if r = true then do let ok ← isTrue c env (eval c env); pure (ForInStep.yield ok) else pure (ForInStep.yield r)) (fun ok s₃ =>
            if ok = true then wpAny (model W.prog W.w) A (eval elt env) (fun x s₄ =>
              wpAny (model W.prog W.w) A (call (.builtin "list.append") [acc, x]) (fun _ s₅ => ∃ m, m < n ∧ I m s₅) Nev s₄) Nev s₃
            else ∃ m, m < n ∧ I m s₃) Nev s₂) Nev s₁) Nev s₁) Nev s)
    (n : Nat) (h : I n s) : codeAny (model W.prog W.w) A (.compLoop (.ListComp elt [⟨target, iter, ifs, 0⟩] scope pos) 0 it acc env) R s := by
  refine codeAny_loop rfl I (fun n s hI => ?_) n h
  show wpAny _ A ((compTurn (.ListComp elt [⟨target, iter, ifs, 0⟩] scope pos) 0 it acc env).onRaise (fun x => do noteFrame x env; theTreesLotGoes x)) _ _ s
  refine wpAny_noted ?_
  rw [compTurn_list]
  refine wpAny_bind (wpAny_standAt (wpAny_bind (wpA (turn n s hI) fun r s₁ h₁ => ?_)))
  cases r with
  | none => exact wpAny_pure h₁
  | some v =>
    refine wpAny_bind (wpA h₁ fun _ s₁ h₁ => ?_)
    refine wpAny_bind (wpA h₁ fun _ s₂ h₂ => wpAny_bind (wpA h₂ fun ok s₃ h₃ => ?_))
    cases ok with
    | false => exact wpAny_pure ⟨rfl, h₃⟩
    | true =>
      exact wpAny_bind (wpAny_bind (wpAny_mono h₃ (fun x s₄ h₄ => wpAny_bind (wpAny_mono h₄ (fun _ s₅ h₅ => wpAny_pure (wpAny_pure ⟨rfl, h₅⟩)) fun _ _ x => x.elim)) fun _ _ x => x.elim))

/-- the comprehension's own frame -/
noncomputable abbrev compFm (F : Fm) (e : Env) (cns cro : List Str) (cgs : List (Str × D)) : Fm := { F with e := e, ns := cns, ro := cro, gs := cgs }

theorem nlt1 {C D c : Nat} (h : C = D + 1) (h1 : C + 1 ≤ c) (h2 : c < D) : False := by
  subst h
  exact Nat.lt_irrefl c (Nat.lt_of_lt_of_le h2 (Nat.le_trans (Nat.le_add_right D 2) h1))
theorem nlt2 {C D c : Nat} (h : C = D + 1) (h1 : c = C) (h2 : c < D) : False := by
  subst h1 h
  exact Nat.lt_irrefl D (Nat.lt_of_succ_lt h2)
theorem nlt3 {C S D : Nat} (hs : S = D) (h : C = D + 1) (h2 : C < S) : False := nlt2 h rfl (hs ▸ h2)
theorem nlt4 {C S D c : Nat} (hs : S = D) (h : C = D + 1) (h1 : C + 1 ≤ c) (h2 : c < S) : False := nlt1 h h1 (hs ▸ h2)
theorem nlt5 {C D : Nat} (h : C = D + 1) (h1 : D = C) : False := Nat.ne_of_lt (Nat.lt_succ_self D) (h1.trans h)
theorem nlt6 {C c : Nat} (h1 : C + 1 ≤ c) (h2 : c = C) : False := Nat.lt_irrefl C (h2 ▸ h1)
/-- a turn of the comprehension, in its frame -/
noncomputable def CompTurn (F : Fm) (scope : Scope) (cns cro : List Str) (cgs : List (Str × D)) (cds : List (Option D)) (target elt : Expr) (ifs : List Expr) (xs : List D) (J : Nat → Led → List D → Prop) : Prop :=
  ∀ e : Env, e.scope = relabel scope F.e → ∀ i x μ1 ys, xs[i]? = some x → J i μ1 ys →
    Wa (compFm F e cns cro cgs) target x cds μ1 fun cds' μ2 => Wq (compFm F e cns cro cgs) ifs cds' μ2 fun ok μ3 => if ok then Wp (compFm F e cns cro cgs) elt cds' μ3 fun d μ4 => J (i + 1) μ4 (ys ++ [d]) else J (i + 1) μ3 ys

section
variable {F : Fm} {ds : List (Option D)} {μ : Led}

theorem comp_main {A : Around} {h₀ : Heap} {s s₂ : Shared} {R : Value → Addr → Result → Shared → Prop} {elt target iter : Expr} {ifs : List Expr} {scope : Scope} {pos : Pos} {cns cro : List Str} {cgs : List (Str × D)} {cds : List (Option D)} {itv : Value} {xs : List D} {src : Led → Prop}
    {wr : List Addr} {It : Nat → Heap → Prop} {J : Nat → Led → List D → Prop} {cl : List (Str × Addr)} (ok : Ok F A h₀ ds μ s₂) (st₂ : Stp s s₂) (co : CompOk F scope cns cro cgs) (hcap : ∀ x d, Has cns cds x d → x ∈ cro ∧ Has F.ns ds x d)
    (W : Iter F.W F.n itv target src xs wr It) (hI : It 0 s₂.heap) (hnew : ∀ b ∈ wr, h₀.get? b = none) (hJ0 : J 0 μ []) (hsrc : ∀ i μ ys, J i μ ys → src μ) (hsz : ∀ i μ ys, J i μ ys → ys.length ≤ i) (hlen : xs.length ≤ sizeLine)
    (turn : CompTurn F scope cns cro cgs cds target elt ifs xs J) (hcl1 : ∀ x c, cl.lookup x = some c → F.e.cells.lookup x = some c) (hcl2 : ∀ p ∈ scope.names, p.2 = .free → ∃ c, cl.lookup p.1 = some c)
    (fin : ∀ D C s' μ1 ys, J xs.length μ1 ys → μ1 D = none → Stp s s' → St h₀ F.e F.ns ds (upd μ1 D ys) s' → (∃ m, s'.heap.Ns C m) → h₀.get? C = none → C ≠ F.e.locals → R (.ref D) C (.ok .next) s') :
    wpAny (model F.W.prog F.W.w) A (newList []) (fun acc s₃ => wpAny (model F.W.prog F.W.w) A (newFunctionEnv scope F.e.globals cl [] F.e.qual none .none (some F.e)) (fun cenv s₄ =>
      codeAny (model F.W.prog F.W.w) A (.compStart (.ListComp elt [⟨target, iter, ifs, 0⟩] scope pos) 0 itv acc { cenv with scope := relabel scope F.e }) (R acc cenv.locals) s₄) Nev s₃) Nev s₂ := by
  refine wpAny_newObj_type (newEnv_comp ?_)
  dsimp only
  generalize hH2 : s₂.heap.push { cls := .type "list", dict := none, data := .seq ([] : List Value).toArray } = H2
  have hC : H2.objs.size = s₂.heap.objs.size + 1 := by rw [← hH2, Heap.size_push]
  generalize hD : s₂.heap.objs.size = Da at hC ⊢
  generalize hCa : H2.objs.size = C at hC ⊢
  have hDget : H2.get? Da = some { cls := .type "list", dict := none, data := .seq ([] : List Value).toArray } := by rw [← hH2, ← hD]; exact Heap.get?_push_size _ rfl
  have kH2 : Kept s₂.heap H2 := by rw [← hH2]; exact Kept.push _ _
  generalize hH3 : H2.push { cls := .type "dict", data := .dict #[] } = H3
  have kH3 : Kept H2 H3 := by rw [← hH3]; exact Kept.push _ _
  have hCget : H3.get? C = some { cls := .type "dict", data := .dict #[] } := by rw [← hH3, ← hCa]; exact Heap.get?_push_size _ rfl
  have hH3s : H3.objs.size = C + 1 := by rw [← hH3, Heap.size_push, hCa]
  have kH4 : Kept H3 (pushCells H3 scope.names) := pushCells_keeps _ _
  have cok := cellsFrom_ok scope.names H3 (C + 1) [] ⟨fun _ _ hm => (nomatch hm), List.Pairwise.nil⟩ (by rw [hH3s]; exact Nat.le_refl _)
  rw [hH3s] at cok
  generalize hH4 : pushCells H3 scope.names = H4 at kH4 cok ⊢
  have kAll : Kept s₂.heap H4 := (kH2.trans kH3).trans kH4
  have hNsC : ∃ m, H4.Ns C m := ⟨_, (by have := Heap.Ns.new H2 (.type "dict"); rw [hH3, hCa] at this; exact this : H3.Ns C _).keeps kH4⟩
  have h0C : h₀.get? C = none := by
    cases q : h₀.get? C with
    | none => rfl
    | some o => exact (nlt3 hD hC (Heap.lt_size (ok.st.keep _ _ q))).elim
  have h0D : h₀.get? Da = none := by rw [← hD]; exact fresh_base ok.st.keep
  have hLlt : F.e.locals < Da := by obtain ⟨m, ⟨o, _, _, ho, _⟩, _⟩ := ok.st.loc; rw [← hD]; exact Heap.lt_size ho
  have S4 : St h₀ F.e F.ns ds (upd μ Da []) { s₂ with heap := H4 } := by
    have := (ok.st.kept (tk := s₂.toks) kAll).add (a := Da) (ys := []) ⟨_, _, _, kH4 _ _ (kH3 _ _ hDget), rfl, rfl, rfl, .nil⟩ h0D
    exact this
  have hμD : μ Da = none := by rw [← hD]; exact fresh_led ok.st.led
  -- the comprehension's cells
  generalize hcs : cellsFrom (C + 1) scope.names cl = cs
  have hcs' : cs = cellsFrom (C + 1) scope.names [] ++ cl := by rw [← hcs, cellsFrom_acc]
  let ce : Env := { scope := relabel scope F.e, locals := C, globals := F.e.globals, cells := cs, qual := F.e.qual, func := none, code := F.e.code, frame := F.e.frame, builtins := F.e.builtins }
  have kindOf : ∀ x, ce.kindOf x = (scope.names.lookup x).map fun k => if k == .free && F.e.kindOf x == some .cell then .cell else k := fun x => lookup_relabel (scope := scope) ok.e.kind scope.names x
  have own_cell : ∀ x, scope.names.lookup x = some .cell → ∃ c, cs.lookup x = some c ∧ (x, c) ∈ cellsFrom (C + 1) scope.names [] := fun x hx => by
    obtain ⟨c, hc⟩ := cellsFrom_has scope.names (C + 1) hx
    exact ⟨c, by rw [hcs', List.lookup_append, hc]; rfl, mem_of_lookup hc⟩
  have cap_cell : ∀ x c, (x, NameKind.cell) ∉ scope.names → cs.lookup x = some c → F.e.cells.lookup x = some c := fun x c hx hc => by
    rw [hcs', List.lookup_append] at hc
    cases q : (cellsFrom (C + 1) scope.names []).lookup x with
    | some c' => exact absurd (cellsFrom_names' _ _ (mem_of_lookup q)) hx
    | none => rw [q] at hc; exact hcl1 x c hc
  have cap_lt : ∀ x c, x ∈ F.ns → F.e.kindOf x = some .cell → F.e.cells.lookup x = some c → c < Da := fun x c h1 h2 h3 => by
    obtain ⟨w, hcell, _⟩ := ok.st.cel x c h1 h2 h3
    rw [← hD]; exact hcell.lt
  have eok : EnvOk F.W ce cns cro cgs := by
    refine ⟨co.kind, ok.e.glob, ok.e.bui, fun x hx => ⟨(co.loc x hx).1, ?_⟩, co.nd, ?_, fun p hp => ?_, co.inter, fun x hx hro hkc c hc => ?_⟩
    · rcases (co.loc x hx).2 with ⟨_, h | h⟩ | ⟨_, hm, h, hn⟩
      · left; rw [kindOf, h]; rfl
      · right
        obtain ⟨c, hc, _⟩ := own_cell x h
        exact ⟨by rw [kindOf, h]; rfl, c, hc⟩
      · right
        have hf := (co.free _ hm rfl).2
        obtain ⟨c, hc⟩ := hcl2 _ hm rfl
        refine ⟨by rw [kindOf, h]; simp [hf], c, ?_⟩
        show cs.lookup x = some c
        rw [hcs', List.lookup_append]
        cases q : (cellsFrom (C + 1) scope.names []).lookup x with
        | some c' => exact absurd (cellsFrom_names' _ _ (mem_of_lookup q)) hn
        | none => exact hc
    · intro x hx y hy c hxk hyk hxc hyc
      have own : ∀ z ∈ cns, ce.kindOf z = some .cell → cs.lookup z = some c → ((z, c) ∈ cellsFrom (C + 1) scope.names []) ∨ (z ∈ F.ns ∧ F.e.kindOf z = some .cell ∧ F.e.cells.lookup z = some c) := fun z hz hzk hzc => by
        rcases (co.loc z hz).2 with ⟨_, h | h⟩ | ⟨_, hm, h, hn⟩
        · rw [kindOf, h] at hzk; cases hzk
        · obtain ⟨c', hc', hm⟩ := own_cell z h
          rw [hzc] at hc'; cases hc'; exact .inl hm
        · exact .inr ⟨(co.free _ hm rfl).1, (co.free _ hm rfl).2, cap_cell z c hn hzc⟩
      rcases own x hx hxk hxc with h1 | h1 <;> rcases own y hy hyk hyc with h2 | h2
      · exact name_of_addr cok.apart h1 h2
      · have a1 : @LE.le Nat _ (C + 1) c := (cok.empty x c h1).2
        have a2 : @LT.lt Nat _ c Da := cap_lt y c h2.1 h2.2.1 h2.2.2
        exact (nlt1 hC a1 a2).elim
      · have a1 : @LE.le Nat _ (C + 1) c := (cok.empty y c h2).2
        have a2 : @LT.lt Nat _ c Da := cap_lt x c h1.1 h1.2.1 h1.2.2
        exact (nlt1 hC a1 a2).elim
      · exact ok.e.inj x h1.1 y h2.1 c h1.2.1 h2.2.1 h1.2.2 h2.2.2
    · obtain ⟨g1, g2, g3⟩ := co.gl p hp
      exact ⟨g1, by rw [kindOf, g2]; rfl, g3⟩
    · rcases (co.loc x hx).2 with ⟨_, h | h⟩ | ⟨hr, _⟩
      · rw [kindOf, h] at hkc; cases hkc
      · obtain ⟨c', hc', hm⟩ := own_cell x h
        have : cs.lookup x = some c := hc
        rw [hc'] at this; cases this
        have h1 : @LE.le Nat _ (C + 1) c := (cok.empty x c hm).2
        show @LT.lt Nat _ C c
        exact h1
      · exact absurd hr hro
  -- the loop
  have hce : ∀ x c, x ∈ cns → ce.kindOf x = some .cell → cs.lookup x = some c → (x ∈ cro → F.e.cells.lookup x = some c ∧ x ∈ F.ns ∧ F.e.kindOf x = some .cell) ∧ (x ∉ cro → (x, c) ∈ cellsFrom (C + 1) scope.names []) := fun x c hx hk hc => by
    rcases (co.loc x hx).2 with ⟨hr, h | h⟩ | ⟨hr, hm, h, hn⟩
    · rw [kindOf, h] at hk; cases hk
    · obtain ⟨c', hc', hm⟩ := own_cell x h
      rw [hc] at hc'; cases hc'
      exact ⟨fun q => absurd q hr, fun _ => hm⟩
    · exact ⟨fun _ => ⟨cap_cell x c hn hc, (co.free _ hm rfl).1, (co.free _ hm rfl).2⟩, fun q => absurd hr q⟩
  let I : Nat → Shared → Prop := fun k s' => ∃ i μ1 ys, k = xs.length + 1 - i ∧ i ≤ xs.length ∧ J i μ1 ys ∧ μ1 Da = none ∧ Stp s s' ∧ It i s'.heap ∧ (∃ m, s'.heap.Ns C m) ∧ (∀ x c, (x, c) ∈ cellsFrom (C + 1) scope.names [] → ∃ w, s'.heap.IsCell c w) ∧
    St h₀ F.e F.ns ds (upd μ1 Da ys) s'
  have h0own : ∀ x c, (x, c) ∈ cellsFrom (C + 1) scope.names [] → h₀.get? c = none := fun x c hm => by
    cases q : h₀.get? c with
    | none => rfl
    | some o =>
      have h1 : @LT.lt Nat _ c s₂.heap.objs.size := Heap.lt_size (ok.st.keep _ _ q)
      have h2 : @LE.le Nat _ (C + 1) c := (cok.empty x c hm).2
      exact (nlt4 hD hC h2 h1).elim
  have main : ∀ s₅ : Shared, I (xs.length + 1) s₅ → codeAny (model F.W.prog F.W.w) A (.compLoop (.ListComp elt [⟨target, iter, ifs, 0⟩] scope pos) 0 itv (.ref Da) ce) (R (.ref Da) C) s₅ := fun s₅ hI5 => by
    refine compLoop_turns (W := F.W) I ?_ (xs.length + 1) hI5
    rintro k s' ⟨i, μ1, ys, rfl, hi, hJ, hμ, st, hIt, hNs, hCells, S⟩
    -- a base that hides the iterator too
    have S1 : St h₀ F.e F.ns ds μ1 s' := S.sub fun a zs q => upd_some q hμ
    let hb : Heap := hide (turnGround F.e F.ns μ1 s') fun b => decide (b ∈ wr)
    have h0b : Kept h₀ hb := fun b o q => (hide_some (by
      cases z : decide (b ∈ wr) with
      | false => rfl
      | true => rw [hnew b (of_decide_eq_true z)] at q; cases q)).trans (S1.base b o q)
    have oo : Oo F.W F.n A hb μ1 s' := ⟨ok.a, F.W.keeps ok.g h0b, (hide_kept _ _).trans S1.turn.keep, ⟨S1.led.lst, fun a ys q => get_none_of (hide_kept _ _) (S1.turn.led.new a ys q)⟩⟩
    have hbn : ∀ b ∈ wr, hb.get? b = none := fun b hb' => hide_none (decide_eq_true hb')
    by_cases hlt : i < xs.length
    · refine wpA (W.next A hb μ1 s' i xs[i] oo (hsrc _ _ _ hJ) hIt (by simp [hlt]) hbn) fun r s₁ hr => ?_
      obtain ⟨v, rfl, hr⟩ := hr
      refine wpA hr fun _ s₁ hr => ?_
      obtain ⟨st1, rv, hIt1, k1⟩ := hr
      have SS := S.offwr' (fun b hb => W.flds i _ b hIt hb) hnew st1 k1
      have off : ∀ b o, s'.heap.get? b = some o → ¬ Aux o → s₁.heap.get? b = some o := fun b o q hd => k1 b o (fun hb => by
        obtain ⟨o', q', hd'⟩ := W.flds i _ b hIt hb
        rw [q] at q'; cases q'
        exact hd hd') q
      have hNs1 : ∃ m, s₁.heap.Ns C m := by
        obtain ⟨m, o, es, ep, ho, hd, r⟩ := hNs
        exact ⟨m, o, es, ep, off _ o ho (fun z => z.not_dict hd), hd, r⟩
      have hCells1 : ∀ x c, (x, c) ∈ cellsFrom (C + 1) scope.names [] → ∃ w, s₁.heap.IsCell c w := fun x c hm => by
        obtain ⟨w, o, ho, hd⟩ := hCells x c hm
        exact ⟨w, o, off _ o ho (fun z => z.not_cell hd), hd⟩
      have SSμ : St h₀ F.e F.ns ds μ1 s₁ := SS.sub fun a zs q => upd_some q hμ
      -- the turn's base
      let p : Addr → Bool := hidden ce cns μ1
      have hp_own : ∀ b, ownCell ce cns b = true → ∃ x, (x, b) ∈ cellsFrom (C + 1) scope.names [] := fun b hb => by
        obtain ⟨x, hx, h1, h2, h3⟩ := ownCell_iff hb
        by_cases hr : x ∈ cro
        · obtain ⟨q1, q2, q3⟩ := (hce x b hx h1 h2).1 hr
          have a2 : @LT.lt Nat _ b Da := cap_lt x b q2 q3 q1
          have a3 : @LT.lt Nat _ C b := h3
          exact (nlt1 hC a3 a2).elim
        · exact ⟨x, (hce x b hx h1 h2).2 hr⟩
      have hp : ∀ b, p b = true → h₀.get? b = none := fun b hb => by
        simp only [p, hidden, Bool.or_eq_true, decide_eq_true_eq] at hb
        rcases hb with (rfl | hb) | hb
        · exact h0C
        · obtain ⟨x, hm⟩ := hp_own b hb; exact h0own x b hm
        · obtain ⟨zs, q⟩ := Option.isSome_iff_exists.mp hb; exact SSμ.led.new b zs q
      have hpd : ∀ b o, p b = true → s₁.heap.get? b = some o → (∃ es ep, o.data = .dict es ep) ∧ b = C ∨ (∃ w, o.data = .cell w) ∧ (∃ x, (x, b) ∈ cellsFrom (C + 1) scope.names []) ∨ (o.cls = .type "list" ∧ (∃ vs n, o.data = .seq vs n)) ∧ (μ1 b).isSome = true := fun b o hb ho => by
        simp only [p, hidden, Bool.or_eq_true, decide_eq_true_eq] at hb
        rcases hb with (rfl | hb) | hb
        · left
          obtain ⟨m, o', es, ep, ho', hd, _⟩ := hNs1
          rw [ho] at ho'; cases ho'
          exact ⟨⟨es, ep, hd⟩, rfl⟩
        · right; left
          obtain ⟨x, hm⟩ := hp_own b hb
          obtain ⟨w, o', ho', hd⟩ := hCells1 x b hm
          rw [ho] at ho'; cases ho'
          exact ⟨⟨w, hd⟩, x, hm⟩
        · right; right
          obtain ⟨zs, q⟩ := Option.isSome_iff_exists.mp hb
          obtain ⟨o', vs, n, ho', hc, _, hd, _⟩ := SSμ.led.lst b zs q
          rw [ho] at ho'; cases ho'
          exact ⟨⟨hc, vs, n, hd⟩, by rw [q]; rfl⟩
      have hpL : p F.e.locals = false := by
        cases z : p F.e.locals with
        | false => rfl
        | true =>
          obtain ⟨m, ⟨o, es, ep, ho, hd, _⟩, _⟩ := SSμ.loc
          rcases hpd _ o z ho with ⟨_, h⟩ | ⟨⟨_, h⟩, _⟩ | ⟨⟨_, _, _, h⟩, _⟩
          · have a1 : @LT.lt Nat _ F.e.locals Da := hLlt
            have a2 : @Eq Nat F.e.locals C := h
            exact (nlt2 hC a2 a1).elim
          · rw [hd] at h; cases h
          · rw [hd] at h; cases h
      have hpc : ∀ y c, y ∈ F.ns → F.e.kindOf y = some .cell → F.e.cells.lookup y = some c → p c = false := fun y c q1 q2 q3 => by
        cases z : p c with
        | false => rfl
        | true =>
          obtain ⟨w, ⟨o, ho, hd⟩, _⟩ := SSμ.cel y c q1 q2 q3
          have a1 : @LT.lt Nat _ c Da := cap_lt y c q1 q2 q3
          rcases hpd _ o z ho with ⟨_, h⟩ | ⟨_, x, hm⟩ | ⟨⟨_, _, _, h⟩, _⟩
          · have a2 : @Eq Nat c C := h; exact (nlt2 hC a2 a1).elim
          · have a2 : @LE.le Nat _ (C + 1) c := (cok.empty x c hm).2; exact (nlt1 hC a2 a1).elim
          · rw [hd] at h; cases h
      have hpD : p Da = false := by
        cases z : p Da with
        | false => rfl
        | true =>
          obtain ⟨o, vs, n, ho, hcl, _, hd, _⟩ := SS.led.lst Da ys (upd_same _ _ _)
          rcases hpd _ o z ho with ⟨_, h⟩ | ⟨⟨_, h⟩, _⟩ | ⟨_, h⟩
          · have a2 : @Eq Nat Da C := h; exact (nlt5 hC a2).elim
          · rw [hd] at h; cases h
          · rw [hμ] at h; cases h
      have hShown : ∀ b o, s₁.heap.get? b = some o → Aux o → (hide s₁.heap p).get? b = some o := fun b o ho hd => (hide_some (by
        cases z : p b with
        | false => rfl
        | true =>
          rcases hpd _ o z ho with ⟨⟨_, _, h⟩, _⟩ | ⟨⟨_, h⟩, _⟩ | ⟨⟨hc, _, _, h⟩, _⟩
          · exact (hd.not_dict h).elim
          · exact (hd.not_cell h).elim
          · exact (hd.not_list hc).elim)).trans ho
      have SC : St (hide s₁.heap p) ce cns cds μ1 s₁ := by
        refine ⟨?_, fun x c hx hk hc => ?_, hide_kept _ _, hide_none (by simp [p, hidden]), ⟨SSμ.led.lst, fun a zs q => hide_none (by simp [p, hidden, q])⟩⟩
        · obtain ⟨m, hm⟩ := hNs1
          refine ⟨m, hm, fun x d hx hk => ?_⟩
          have hr := (hcap x d hx).1
          rcases (co.loc x hx.mem).2 with ⟨h, _⟩ | ⟨_, hm', h, _⟩
          · exact absurd hr h
          · rw [kindOf, h] at hk
            have := (co.free _ hm' rfl).2
            simp [this] at hk
        · by_cases hr : x ∈ cro
          · obtain ⟨q1, q2, q3⟩ := (hce x c hx hk hc).1 hr
            obtain ⟨w, hcell, a2, _⟩ := SSμ.cel x c q2 q3 q1
            refine ⟨w, hcell, fun d hd => a2 d (hcap x d hd).2, fun h => ?_⟩
            have a1 : @LT.lt Nat _ c Da := cap_lt x c q2 q3 q1
            have a2 : @LT.lt Nat _ C c := h
            exact (nlt1 hC a2 a1).elim
          · have hm := (hce x c hx hk hc).2 hr
            obtain ⟨w, hcell⟩ := hCells1 x c hm
            exact ⟨w, hcell, fun d hd => absurd (hcap x d hd).1 hr, fun h => hide_none (by simp [p, hidden, ownCell_of hx hk hc h])⟩
      have okC : Ok (compFm F ce cns cro cgs) A (hide s₁.heap p) cds μ1 s₁ := ⟨ok.a, F.W.keeps ok.g fun b o q => (hide_some (by
        cases z : p b with
        | false => rfl
        | true => rw [hp b z] at q; cases q)).trans (SSμ.keep b o q), eok, SC⟩
      have T := turn ce rfl i xs[i] μ1 ys (by simp [hlt]) hJ
      refine wpA (T A _ s₁ v okC rv) fun _ s₂' p2 => ?_
      refine p2.el fun st2 ds2 μ2 k2 S2 => ?_
      refine wpA (k2 A _ s₂' (okC.to S2)) fun okb s₃ p3 => ?_
      refine p3.el fun st3 μ3 k3 S3 => ?_
      -- what stands behind a turn that kept the base
      have back : ∀ (s₄ : Shared) (μ4 : Led) (dsC : List (Option D)), Stp s₁ s₄ → St (hide s₁.heap p) ce cns dsC μ4 s₄ → μ4 Da = none ∧ It (i + 1) s₄.heap ∧ (∃ m, s₄.heap.Ns C m) ∧ (∀ x c, (x, c) ∈ cellsFrom (C + 1) scope.names [] → ∃ w, s₄.heap.IsCell c w) ∧ St h₀ F.e F.ns ds (upd μ4 Da ys) s₄ := fun s₄ μ4 dsC stt S4 => by
        have hDb : ∃ o, (hide s₁.heap p).get? Da = some o ∧ s₁.heap.get? Da = some o := by
          obtain ⟨o, vs, n, ho, _⟩ := SS.led.lst Da ys (upd_same _ _ _)
          exact ⟨o, (hide_some hpD).trans ho, ho⟩
        obtain ⟨oD, hoD, hoD'⟩ := hDb
        refine ⟨?_, ?_, ?_, ?_, ?_⟩
        · cases q : μ4 Da with
          | none => rfl
          | some zs => have := S4.led.new Da zs q; rw [hoD] at this; cases this
        · refine W.frame _ _ _ hIt1 fun b hb o q => ?_
          obtain ⟨o', q', hd⟩ := W.flds _ _ b hIt1 hb
          rw [q] at q'; cases q'
          exact S4.keep b o (hShown b o q hd)
        · obtain ⟨m, hm, _⟩ := S4.loc; exact ⟨m, hm⟩
        · intro x c hm
          by_cases hpb : p c = true
          · simp only [p, hidden, Bool.or_eq_true, decide_eq_true_eq] at hpb
            rcases hpb with (h | h) | h
            · have a2 : @LE.le Nat _ (C + 1) c := (cok.empty x c hm).2
              have a3 : @Eq Nat c C := h
              exact (nlt6 a2 a3).elim
            · obtain ⟨y, hy, h1, h2, h3⟩ := ownCell_iff h
              obtain ⟨w, hw, _⟩ := S4.cel y c hy h1 h2
              exact ⟨w, hw⟩
            · obtain ⟨zs, q⟩ := Option.isSome_iff_exists.mp h
              obtain ⟨o, vs, n, ho, _, _, hd, _⟩ := SSμ.led.lst c zs q
              obtain ⟨w, o', ho', hd'⟩ := hCells1 x c hm
              rw [ho] at ho'; cases ho'
              rw [hd] at hd'; cases hd'
          · have hpf : p c = false := by simpa using hpb
            obtain ⟨w, o, ho, hd⟩ := hCells1 x c hm
            exact ⟨w, o, S4.keep c o ((hide_some hpf).trans ho), hd⟩
        · have SP := SSμ.other hp hpL hpc stt S4.keep S4.led
          refine SP.add ?_ h0D
          obtain ⟨o, vs, n, ho, hcl, hdn, hd, r⟩ := SS.led.lst Da ys (upd_same _ _ _)
          exact ⟨o, vs, n, S4.keep Da o ((hide_some hpD).trans ho), hcl, hdn, hd, r.mono stt.tup⟩
      cases okb with
      | false =>
        simp only [Bool.false_eq_true, if_false] at k3 ⊢
        obtain ⟨b1, b2, b3, b4, b5⟩ := back s₃ μ3 _ (st2.trans st3) S3
        exact ⟨xs.length + 1 - (i + 1), turn_lt hlt, i + 1, μ3, ys, rfl, hlt, k3, b1, (st.trans st1).trans (st2.trans st3), b2, b3, b4, b5⟩
      | true =>
        simp only [if_true] at k3 ⊢
        refine wpA (k3 A _ s₃ (okC.to S3)) fun vx s₄ p4 => ?_
        refine p4.el fun st4 d μ4 k4 r4 S4 => ?_
        obtain ⟨b1, b2, b3, b4, b5⟩ := back s₄ μ4 _ ((st2.trans st3).trans st4) S4
        have okA : Ok F A h₀ ds (upd μ4 Da ys) s₄ := ok.to b5
        have hyl := hsz _ _ _ hJ
        have ap := Wc.append (W := F.W) (n := F.n) (μ := upd μ4 Da ys) (a := Da) (ds := ys) (d := d) (K := fun d' μ' => d' = .none ∧ μ' = upd μ4 Da (ys ++ [d])) (upd_same _ _ _) (Nat.le_trans hyl (Nat.le_trans (Nat.le_of_lt hlt) hlen)) ⟨rfl, upd_upd _ _ _ _⟩
        refine wpA (ap A _ s₄ [.ref Da, vx] okA.op (.cons (.val _) (.cons r4 .nil))) fun _ s₅ p5 => ?_
        have pk := p5.keep
        have p5 := okA.back p5
        refine p5.el fun st5 d' μ' hk3 _ S5 => ?_
        obtain ⟨rfl, rfl⟩ := hk3
        refine ⟨xs.length + 1 - (i + 1), turn_lt hlt, i + 1, μ4, ys ++ [d], rfl, hlt, k4, b1, ((st.trans st1).trans ((st2.trans st3).trans st4)).trans st5, ?_, ?_, ?_, S5⟩
        · refine W.frame _ _ _ b2 fun b hb o q => ?_
          obtain ⟨o', q', hd⟩ := W.flds _ _ b b2 hb
          rw [q] at q'; cases q'
          refine pk b o ((hide_some ?_).trans q)
          cases z : (upd μ4 Da ys) b with
          | none => rfl
          | some zs =>
            obtain ⟨o', _, _, q', hc, _⟩ := b5.led.lst b zs z
            rw [q] at q'; cases q'
            exact (hd.not_list hc).elim
        · obtain ⟨m, o, es, ep, ho, hd, r⟩ := b3
          exact ⟨m, o, es, ep, pk _ o ((hide_some (not_led_of_dict b5.led ho fun vs n z => by rw [hd] at z; cases z)).trans ho), hd, r⟩
        · intro x c hm
          obtain ⟨w, o, ho, hd⟩ := b4 x c hm
          exact ⟨w, o, pk _ o ((hide_some (not_led_of_dict b5.led ho fun vs n z => by rw [hd] at z; cases z)).trans ho), hd⟩
    · have hii : i = xs.length := Nat.le_antisymm hi (Nat.le_of_not_lt hlt)
      subst hii
      refine wpA (W.done A hb μ1 s' oo (hsrc _ _ _ hJ) hIt hbn) fun r s₁ hr => ?_
      obtain ⟨rfl, st1, k1⟩ := hr
      refine fin Da C _ μ1 ys hJ hμ (st.trans st1) (S.offwr' (fun b hb => W.flds _ _ b hIt hb) hnew st1 k1) ?_ h0C (fun q => ?_)
      · obtain ⟨m, o, es, ep, ho, hd, r⟩ := hNs
        refine ⟨m, o, es, ep, k1 _ o (fun hb => ?_) ho, hd, r⟩
        obtain ⟨o', q', hd'⟩ := W.flds _ _ C hIt hb
        rw [ho] at q'; cases q'
        exact hd'.not_dict hd
      · have a1 : @LT.lt Nat _ F.e.locals Da := hLlt
        have a2 : @Eq Nat C F.e.locals := q
        exact (nlt2 hC a2.symm a1).elim
  have I0 : I (xs.length + 1) { s₂ with heap := H4 } := ⟨0, μ, [], rfl, Nat.zero_le _, hJ0, hμD, st₂.trans (Stp.kept (tk := s₂.toks) kAll), W.frame _ _ _ hI fun b _ o q => kAll b o q, hNsC, fun x c hm => ⟨none, (cok.empty x c hm).1⟩, S4⟩
  exact codeAny_compStart_list (main _ I0) (W.self A 0 _ _ _ (W.frame _ _ _ hI fun b _ o q => kAll b o q) (main _ I0))

/-- the comprehension's frame is let go -/
theorem St.let_go {h₀ : Heap} {s : Shared} {C : Addr} (x : St h₀ F.e F.ns ds μ s) (hC : h₀.get? C = none) (hne : C ≠ F.e.locals) (hns : ∃ m, s.heap.Ns C m) {h' : Heap} (hs : Heap.SameBut C s.heap h') : Stp s { s with heap := h' } ∧ St h₀ F.e F.ns ds μ { s with heap := h' } := by
  obtain ⟨m, o, es, ep, ho, hd, _⟩ := hns
  have tk : TupKeep s.heap h' := tup_of_data hs fun o' vs n e _ hq => by rw [ho] at e; cases e; rw [hd] at hq; cases hq
  have st : Stp s { s with heap := h' } := ⟨⟨h', s.toks, rfl⟩, tk⟩
  refine ⟨st, x.other (p := fun b => decide (b = C) || (μ b).isSome) (fun b hb => ?_) ?_ (fun y c q1 q2 q3 => ?_) st (fun b o' q => ?_) ⟨fun a ys q => ?_, fun a ys q => hide_none (by simp [q])⟩⟩
  · simp only [Bool.or_eq_true, decide_eq_true_eq] at hb
    rcases hb with rfl | hb
    · exact hC
    · obtain ⟨ys, q⟩ := Option.isSome_iff_exists.mp hb; exact x.led.new b ys q
  · obtain ⟨m, ⟨o', es, ep, ho', hd', _⟩, _⟩ := x.loc
    have h2 := not_led_of_dict x.led ho' fun vs n z => by rw [hd'] at z; cases z
    simp [h2, Ne.symm hne]
  · obtain ⟨w, ⟨o', ho', hd'⟩, _⟩ := x.cel y c q1 q2 q3
    have h2 := not_led_of_dict x.led ho' fun vs n z => by rw [hd'] at z; cases z
    have h3 : c ≠ C := fun z => by rw [z, ho] at ho'; cases ho'; rw [hd] at hd'; cases hd'
    simp [h2, h3]
  · have hb : (decide (b = C) || (μ b).isSome) = false := by
      cases z : (decide (b = C) || (μ b).isSome) with
      | false => rfl
      | true => rw [hide_none z] at q; cases q
    rw [hide_some hb] at q
    simp only [Bool.or_eq_false_iff, decide_eq_false_iff_not] at hb
    exact (hs.2 b hb.1).trans q
  · have l := x.led.lst a ys q
    obtain ⟨o', vs, n, ho', _, _, hd', _⟩ := id l
    exact l.at tk (hs.2 a fun z => by rw [z, ho] at ho'; cases ho'; rw [hd] at hd'; cases hd')

theorem Ok.closure {A : Around} {h₀ : Heap} {s : Shared} (ok : Ok F A h₀ ds μ s) {scope : Scope} {cns cro : List Str} {cgs : List (Str × D)} (co : CompOk F scope cns cro cgs) :
    ∃ cl, closureFor scope F.e = pure cl ∧ (∀ x c, cl.lookup x = some c → F.e.cells.lookup x = some c) ∧ ∀ p ∈ scope.names, p.2 = .free → ∃ c, cl.lookup p.1 = some c :=
  closureFor_of fun p hp hf => by
    obtain ⟨h1, h2⟩ := co.free p hp hf
    rcases (ok.e.loc p.1 h1).2 with h | ⟨_, h⟩
    · rw [h2] at h; cases h
    · exact h

/-- what a comprehension asks -/
noncomputable def CompAsk (F : Fm) (scope : Scope) (cns cro : List Str) (cgs : List (Str × D)) (cds : List (Option D)) (target elt : Expr) (ifs : List Expr) (K : D → Led → Prop) (xs : List D) (src : Led → Prop) (μ' : Led) : Prop :=
  ∃ J : Nat → Led → List D → Prop, J 0 μ' [] ∧ (∀ i μ ys, J i μ ys → src μ) ∧ (∀ i μ ys, J i μ ys → ys.length ≤ i) ∧ xs.length ≤ sizeLine ∧
      CompTurn F scope cns cro cgs cds target elt ifs xs J ∧ ∀ μ1 ys, J xs.length μ1 ys → ∀ a, μ1 a = none → K (.ref a) (upd μ1 a ys)

theorem Wp.comp {elt target iter : Expr} {ifs : List Expr} {scope : Scope} {pos : Pos} {K : D → Led → Prop} (cns cro : List Str) (cgs : List (Str × D)) (cds : List (Option D)) (co : CompOk F scope cns cro cgs) (hcap : ∀ x d, Has cns cds x d → x ∈ cro ∧ Has F.ns ds x d)
    (hs : ∀ env x, foldedSetIterable iter env x = pure x)
    (h : Wit F iter target ds μ (CompAsk F scope cns cro cgs cds target elt ifs K)) :
    Wp F (.ListComp elt [⟨target, iter, ifs, 0⟩] scope pos) ds μ K := fun A h₀ s ok => by
  rw [eval_ListComp]
  obtain ⟨cl, hcl, hcl1, hcl2⟩ := ok.closure co
  refine wpAny_comprehension_free (use := none) rfl (hs _) hcl co.kind co.names (wpA (h A h₀ s ok) fun xv s₁ h₁ => wpA h₁ fun itv s₂ p2 => ?_)
  obtain ⟨st2, xs, src, μ2, wr, It, ⟨J, hJ0, hsrc, hsz, hlen, turn, fin⟩, W, hI, hnew, S2⟩ := p2
  refine comp_main (R := fun acc C r s' => compPost (model F.W.prog F.W.w) A Nev none (Pv F h₀ ds K s) acc C r s') (ok.to S2) st2 co hcap W hI hnew hJ0 hsrc hsz hlen turn hcl1 hcl2 ?_
  intro Da C s' μ1 ys hJ hμ st S hNs h0C hne
  obtain ⟨m, hm⟩ := hNs
  refine ⟨m, hm, fun h' hs' => ?_⟩
  obtain ⟨st', S'⟩ := S.let_go h0C hne ⟨m, hm⟩ hs'
  exact ⟨st.trans st', .ref Da, _, fin μ1 ys hJ Da hμ, .val _, S'⟩

/-- the machine stores the list before the comprehension's names are let go -/
theorem We.assign_comp {x : Str} {p' p : Pos} {elt target iter : Expr} {ifs : List Expr} {scope : Scope} {pos : Pos} {K : Flw → List (Option D) → Led → Prop} (cns cro : List Str) (cgs : List (Str × D)) (cds : List (Option D)) (co : CompOk F scope cns cro cgs)
    (hcap : ∀ x d, Has cns cds x d → x ∈ cro ∧ Has F.ns ds x d) (hs : ∀ env x, foldedSetIterable iter env x = pure x) (hx : x ∉ F.ro)
    (hsw : ∀ env : Env, env.scope = F.e.scope → swapsWith (.ListComp elt [⟨target, iter, ifs, 0⟩] scope pos) (some (.Name x p')) p.line env = pure true)
    (h : Wit F iter target ds μ (CompAsk F scope cns cro cgs cds target elt ifs fun d μ' => ∃ ds', Put F.ns ds x d ds' ∧ K .next ds' μ')) :
    We F (.Assign [.Name x p'] (.ListComp elt [⟨target, iter, ifs, 0⟩] scope pos) p) ds μ K := fun A h₀ s ok => by
  rw [exec_Assign_Name_used _ _ _ _ (hsw _ rfl)]
  refine wpAny_bind (wpAny_standAt (wpAny_bind ?_))
  show wpAny _ A (do let _ ← comprehension (.ListComp elt [⟨target, iter, ifs, 0⟩] scope pos) scope F.e _ (newList []) false (eval iter F.e) (some (PySem.assign (.Name x p') F.e))) _ _ s
  obtain ⟨cl, hcl, hcl1, hcl2⟩ := ok.closure co
  refine wpAny_bind (wpAny_mono (wpAny_comprehension_free (use := some (PySem.assign (.Name x p') F.e)) (Q := fun _ s' => Pf F h₀ K s .next s') rfl (hs _) hcl co.kind co.names (wpA (h A h₀ s ok) fun xv s₁ h₁ => wpA h₁ fun itv s₂ p2 => ?_)) (fun _ s' hq => wpAny_pure (wpAny_pure hq)) fun _ _ x => x)
  obtain ⟨st2, xs, src, μ2, wr, It, ⟨J, hJ0, hsrc, hsz, hlen, turn, fin⟩, W, hI, hnew, S2⟩ := p2
  refine comp_main (R := fun acc C r s' => compPost (model F.W.prog F.W.w) A Nev (some (PySem.assign (.Name x p') F.e)) (fun _ s' => Pf F h₀ K s .next s') acc C r s') (ok.to S2) st2 co hcap W hI hnew hJ0 hsrc hsz hlen turn hcl1 hcl2 ?_
  intro Da C s' μ1 ys hJ hμ st S hNs h0C hne
  obtain ⟨m, hm⟩ := hNs
  obtain ⟨ds', hp, k⟩ := fin μ1 ys hJ Da hμ
  show wpAny _ A (PySem.assign (.Name x p') F.e (.ref Da)) _ _ s'
  have okS := ok.to S
  have hL : ∃ o es ep, s'.heap.get? F.e.locals = some o ∧ o.data = .dict es ep := by obtain ⟨m, ⟨o, es, ep, ho, hd, _⟩, _⟩ := S.loc; exact ⟨o, es, ep, ho, hd⟩
  refine wpAny_assign_Name (store_ok2 okS (.val _) hp hx fun s₃ st3 S3 hk3 => ?_)
  have hNs3 : ∃ m, s₃.heap.Ns C m := ⟨m, hm.at' fun o e => hk3 C o hne (by
    obtain ⟨o', es, ep, ho', hd', _⟩ := hm
    intro w z
    rw [e] at ho'; cases ho'
    rw [hd'] at z; cases z) e⟩
  obtain ⟨m3, hm3⟩ := hNs3
  refine ⟨m3, hm3, fun h' hs' => ?_⟩
  obtain ⟨st', S'⟩ := S3.let_go h0C hne ⟨m3, hm3⟩ hs'
  exact ⟨(st.trans st3).trans st', .next, ds', _, k, .next, S'⟩
end
end Mine

namespace Mine
open PySem PySem.Calls
/-! ## Iterators -/
section
variable {F : Fm} {ds : List (Option D)} {μ : Led} {t : Expr}

theorem letGo_plain {M : Model} {A : Around} {E : Value → Shared → Prop} {s : Shared} {I : Addr} {v : Value} {o : Obj} {nm : String} {Q : Unit → Shared → Prop} (ho : s.heap.get? I = some o) (hc : o.cls = .type nm)
    (hn : ["enumerate", "zip", "dict_itemiterator", "dict_reverseitemiterator", "odict_iterator", "itertools.zip_longest", "itertools.pairwise"].contains nm = false) (h : Q () s) : wpAny M A (letOwnedTupleGo t (.ref I) v) Q E s := by
  have key : wpAny M A (do
      let (.ref r, .ref a) := ((Value.ref I), v) | return
      let o ← load r
      match o.cls, o.data with
      | .type n, .fields vs =>
        if ["enumerate", "zip", "dict_itemiterator", "dict_reverseitemiterator", "odict_iterator", "itertools.zip_longest", "itertools.pairwise"].contains n && vs[0]? == some (rawInt a) then
          rule "for.unpacks-the-owned-tuple"
          updateField r 0 .none
      | _, _ => pure () : Sem Unit) Q E s := by
    cases v with
    | ref a =>
      refine wpAny_bind (wpAny_load ho ?_)
      rw [hc]
      split
      · rename_i n vs q1 q2
        cases q1
        rw [hn]
        exact wpAny_pure h
      · exact wpAny_pure h
    | _ => exact wpAny_pure h
  unfold letOwnedTupleGo
  split
  · exact key
  · exact key
  · exact wpAny_pure h

theorem ext_tup {I : Addr} {h h' : Heap} (he : Heap.ExtBut I h h') {o : Obj} (ho : h.get? I = some o) (hd : ∃ fs, o.data = .fields fs) : TupKeep h h' := fun b o' vs n e _ hq _ => he b o' (fun z => by
  subst z; rw [ho] at e; cases e
  obtain ⟨fs, q⟩ := hd
  rw [q] at hq; cases hq) e

theorem Iter.list {W : GW} {n : Nat} {ax I : Addr} {xs : List D} : Iter W n (.ref I) t (fun μ => Lis W μ (.ref ax) xs) xs [I] (fun i h => h.IsListIter I ax i) where
  frame := fun i h h' q k => q.at fun o e => k I (by simp) o e
  flds := fun i h b q hb => by
    obtain ⟨o, ho, hc, hd⟩ := q
    rw [List.mem_singleton.mp hb]
    exact ⟨o, ho, .inl ⟨by rw [hc]; decide, _, hd⟩⟩
  next := fun A h₀ μ s i x o hs hI hx hn => by
    obtain ⟨_, vs, e, hl, rs⟩ := hs.at o.glb o.led (.val _)
    cases e
    obtain ⟨v, hv, rv⟩ := rs.get hx
    obtain ⟨ob, hob, hobc, hobd⟩ := id hI
    refine wpAny_pyNext_list_item hI hl (x := v) (by simpa using hv) fun h' hit hsb => ⟨v, rfl, ?_⟩
    obtain ⟨ob', hob', hobc', _⟩ := id hit
    have tk := ext_tup hsb.extBut hob ⟨_, hobd⟩
    refine letGo_plain hob' hobc' (by decide) ⟨⟨⟨h', s.toks, rfl⟩, tk⟩, .rep (rv.mono tk), hit, fun b o' hb e => hsb.extBut b o' (fun z => hb (by simp [z])) e⟩
  done := fun A h₀ μ s o hs hI hn => by
    obtain ⟨_, vs, e, hl, rs⟩ := hs.at o.glb o.led (.val _)
    cases e
    obtain ⟨ob, hob, hobc, hobd⟩ := id hI
    have hsz : vs.size = xs.length := by simpa using rs.length
    refine wpAny_pyNext_list_end o.a.hand hI hl (Array.getElem?_eq_none (by omega)) fun h' he => ⟨rfl, ⟨⟨h', s.toks, rfl⟩, ext_tup he hob ⟨_, hobd⟩⟩, fun b o' hb e => he b o' (fun z => hb (by simp [z])) e⟩
  self := fun A i s Q E hI h => wpAny_pyIter_listiter hI h

theorem Wit.list {x : Expr} {K : List D → (Led → Prop) → Led → Prop} (h : Wp F x ds μ fun d μ' => ∃ xs, Lis F.W μ' d xs ∧ K xs (fun μ => Lis F.W μ d xs) μ') : Wit F x t ds μ K := fun A h₀ s ok =>
  wpAny_mono (h A h₀ s ok) (fun v s₁ p1 => by
    refine p1.el fun st1 d μ1 hk3 r1 S1 => ?_
    obtain ⟨xs, hl, k⟩ := hk3
    have ok1 := ok.to S1
    obtain ⟨ax, vs, rfl, hlist, rs⟩ := hl.at (F.W.keeps ok.g S1.keep) S1.led r1
    have hd : d = .ref ax := by cases hl <;> (cases r1; rfl)
    subst hd
    refine wpAny_pyIter_list hlist ⟨st1.trans (Stp.kept (tk := s₁.toks) (Kept.push _ _)), xs, _, μ1, [s₁.heap.objs.size], _, k, Iter.list (ax := ax), ⟨_, Heap.get?_push_size _ rfl, rfl, rfl⟩, fun b hb => ?_, S1.kept (Kept.push _ _)⟩
    rw [List.mem_singleton.mp hb]; exact fresh_base S1.keep) fun _ _ x => x.elim

/-! a range -/
noncomputable def intsD (a b : Int) : List D := (List.range (b - a).toNat).map fun i => D.int (a + (i : Nat))
theorem intsD_length (a b : Int) : (intsD a b).length = (b - a).toNat := by simp [intsD]
theorem intsD_get (a b : Int) {i : Nat} {d : D} (h : (intsD a b)[i]? = some d) : i < (b - a).toNat ∧ d = .int (a + i) := by
  unfold intsD at h
  rw [List.getElem?_map] at h
  cases q : (List.range (b - a).toNat)[i]? with
  | none => rw [q] at h; cases h
  | some j =>
    rw [q] at h
    obtain ⟨h1, h2⟩ := List.getElem?_eq_some_iff.mp q
    simp at h2
    subst h2
    simp at h1
    exact ⟨by omega, by simpa using h.symm⟩
theorem Iter.range {W : GW} {n : Nat} {I : Addr} {a b : Int} : Iter W n (.ref I) t (fun _ => True) (intsD a b) [I] (fun i h => IsRangeIter h I (a + (i : Nat)) (((b - a).toNat : Int) - (i : Nat)) 1) where
  frame := fun i h h' q k => k I (by simp) _ q
  flds := fun i h b q hb => by
    rw [List.mem_singleton.mp hb]
    exact ⟨_, q, .inl ⟨(by decide : Value.type "range_iterator" ≠ Value.type "list"), _, rfl⟩⟩
  next := fun A h₀ μ s i x o _ hI hx hn => by
    obtain ⟨h1, rfl⟩ := intsD_get a b hx
    refine wpAny_pyNext_range_item hI (by omega) fun h' hit hsb => ⟨_, rfl, ?_⟩
    have tk := ext_tup hsb.extBut hI ⟨_, rfl⟩
    refine letGo_plain hit rfl (by decide) ⟨⟨⟨h', s.toks + 1, rfl⟩, tk⟩, .rep (.int _ _), ?_, fun b o' hb e => hsb.extBut b o' (fun z => hb (by simp [z])) e⟩
    have e1 : a + ((i + 1 : Nat) : Int) = a + (i : Nat) + 1 := by omega
    have e2 : ((b - a).toNat : Int) - ((i + 1 : Nat) : Int) = ((b - a).toNat : Int) - (i : Nat) - 1 := by omega
    show IsRangeIter h' I (a + ((i + 1 : Nat) : Int)) (((b - a).toNat : Int) - ((i + 1 : Nat) : Int)) 1
    rw [e1, e2]
    exact hit
  done := fun A h₀ μ s o _ hI hn => by
    rw [intsD_length] at hI
    refine wpAny_pyNext_range_end o.a.hand hI (by omega) fun h' he => ⟨rfl, ⟨⟨h', s.toks, rfl⟩, ext_tup he hI ⟨_, rfl⟩⟩, fun b o' hb e => he b o' (fun z => hb (by simp [z])) e⟩
  self := fun A i s Q E hI h => wpAny_pyIter_rangeiter hI h

theorem Wit.range {f : Expr} {xs : List Expr} {p : Pos} {K : List D → (Led → Prop) → Led → Prop} (hnm : ∀ e, eval (.Call f xs [] p) e = (do callWith p (← eval f e) [] (backTo p (starEach xs e)) [])) (hp : ∀ e, (starEach xs e).any (·.1) = false)
    (h : Wp F f ds μ fun d μ1 => d = .val (.type "range") ∧ Wl F p xs ds μ1 fun ys μ2 => ∃ a b : Int, (ys = [.int a, .int b] ∨ (a = 0 ∧ ys = [.int b])) ∧ (-(2 ^ 62) ≤ a ∧ a < 2 ^ 62 ∧ -(2 ^ 62) ≤ b ∧ b < 2 ^ 62) ∧ K (intsD a b) (fun _ => True) μ2) :
    Wit F (.Call f xs [] p) t ds μ K := fun A h₀ s ok => by
  rw [hnm]
  refine wpAny_bind (wpAny_mono (h A h₀ s ok) (fun v s₁ p1 => ?_) fun _ _ x => x.elim)
  refine p1.el fun st1 d μ1 hk3 r1 S1 => ?_
  obtain ⟨rfl, k1⟩ := hk3
  cases r1
  refine callWith_any (.ty _) (backTo_plain.trans (hp _)) (wpAny_mono (k1 A h₀ s₁ (ok.to S1)) (fun vs s₂ p2 => ?_) fun _ _ x => x.elim)
  refine p2.el fun st2 ys μ2 hk3 r2 S2 => ?_
  obtain ⟨a, b, hab, ⟨b1, b2, b3, b4⟩, k⟩ := hk3
  refine ⟨F.W.keeps ok.g S2.keep, ?_⟩
  have fin : ∀ (H : Heap) (tk : Nat) (r : Addr) (t' u v : Tok), Kept s₂.heap H → IsRange H r a b 1 t' u v → wpAny (model F.W.prog F.W.w) A (pyIter (.ref r)) (Pi F t h₀ ds K s) Nev { s₂ with heap := H, toks := tk } := fun H tk r t' u v kk hr => by
    refine wpAny_pyIter_range hr (small_one b1 b2 b3 b4) ?_
    have kk' := kk.trans (Kept.push H { cls := .type "range_iterator", data := .fields #[rawInt a, rawInt (Builtin.Range.rangeSize a b 1), rawInt 1] })
    refine ⟨(st1.trans st2).trans (Stp.kept (tk := tk) kk'), intsD a b, _, μ2, [H.objs.size], _, k, Iter.range, ?_, fun b hb => ?_, S2.kept kk'⟩
    · show IsRangeIter _ _ (a + ((0 : Nat) : Int)) (((b - a).toNat : Int) - ((0 : Nat) : Int)) 1
      have e1 : a + ((0 : Nat) : Int) = a := by simp
      have e2 : (((b - a).toNat : Int) - ((0 : Nat) : Int)) = Builtin.Range.rangeSize a b 1 := by rw [rangeSize_one]; split <;> omega
      rw [e1, e2]
      exact Heap.get?_push_size _ rfl
    · rw [List.mem_singleton.mp hb]
      exact get_none_of (S2.keep.trans kk) (get_size H)
  rcases hab with rfl | ⟨rfl, rfl⟩
  · obtain ⟨v, w, rfl, q1, q2⟩ := reps2 r2
    cases q1; cases q2
    exact call_range_2 (fin _ _ _ _ _ _ (Kept.push _ _) (IsRange.new ..))
  · obtain ⟨v, rfl, q1⟩ := reps1 r2
    cases q1
    exact call_range_1 (fin _ _ _ _ _ _ (Kept.push _ _) (IsRange.new ..))

/-! the signs of a text -/
noncomputable def signs (x : Str) : List D := x.cps.toList.map fun c => D.str ⟨#[c]⟩
theorem Iter.str {W : GW} {n : Nat} {I : Addr} {x : Str} {tk : Tok} : Iter W n (.ref I) t (fun _ => True) (signs x) [I] (fun i h => h.IsStrIter I "str_ascii_iterator" x tk i) where
  frame := fun i h h' q k => let ⟨o, ho, r⟩ := q; ⟨o, k I (by simp) o ho, r⟩
  flds := fun i h b q hb => by
    obtain ⟨o, ho, hc, hd⟩ := q
    rw [List.mem_singleton.mp hb]
    exact ⟨o, ho, .inl ⟨by rw [hc]; decide, _, hd⟩⟩
  next := fun A h₀ μ s i d o _ hI hx hn => by
    obtain ⟨ob, hob, hobc, hobd⟩ := id hI
    unfold signs at hx
    rw [List.getElem?_map] at hx
    cases q : x.cps.toList[i]? with
    | none => rw [q] at hx; cases hx
    | some c =>
      rw [q] at hx
      cases hx
      refine wpAny_pyNext_ascii_item hI (c := c) (by simpa using q) fun h' hit hsb => ⟨_, rfl, ?_⟩
      obtain ⟨ob', hob', hobc', _⟩ := id hit
      have tk := ext_tup hsb.extBut hob ⟨_, hobd⟩
      exact letGo_plain hob' hobc' (by decide) ⟨⟨⟨h', s.toks + 1, rfl⟩, tk⟩, .rep (.str _ _), hit, fun b o' hb e => hsb.extBut b o' (fun z => hb (by simp [z])) e⟩
  done := fun A h₀ μ s o _ hI hn => by
    obtain ⟨ob, hob, hobc, hobd⟩ := id hI
    have : (signs x).length = x.cps.size := by simp [signs]
    refine wpAny_pyNext_ascii_end o.a.hand hI (by rw [this]; exact Array.getElem?_eq_none (Nat.le_refl _)) fun h' he => ⟨rfl, ⟨⟨h', s.toks, rfl⟩, ext_tup he hob ⟨_, hobd⟩⟩, fun b o' hb e => he b o' (fun z => hb (by simp [z])) e⟩
  self := fun A i s Q E hI h => wpAny_pyIter_striter_ascii hI h
theorem Wit.str {x : Expr} {K : List D → (Led → Prop) → Led → Prop} (h : Wp F x ds μ fun d μ' => ∃ y : Str, d = .str y ∧ y.cps.all (· < 128) = true ∧ K (signs y) (fun _ => True) μ') : Wit F x t ds μ K := fun A h₀ s ok =>
  wpAny_mono (h A h₀ s ok) (fun v s₁ p1 => by
    refine p1.el fun st1 d μ1 hk3 r1 S1 => ?_
    obtain ⟨y, rfl, ha, k⟩ := hk3
    cases r1
    refine wpAny_pyIter_ascii ha ⟨st1.trans (Stp.kept (tk := s₁.toks) (Kept.push _ _)), signs y, _, μ1, [s₁.heap.objs.size], _, k, Iter.str, ⟨_, Heap.get?_push_size _ rfl, rfl, rfl⟩, fun b hb => ?_, S1.kept (Kept.push _ _)⟩
    rw [List.mem_singleton.mp hb]; exact fresh_base S1.keep) fun _ _ x => x.elim

/-! a tuple display -/
theorem Iter.tuple {W : GW} {n : Nat} {I tu : Addr} {xs : List D} {vs : Array Value} (hne : tu ≠ I) :
    Iter W n (.ref I) t (fun _ => True) xs [I, tu] (fun i h => PyProof.Rows.IsTupIter h I tu i ∧ PyProof.Rows.IsTup h tu vs ∧ Reps h vs.toList xs ∧ ∀ d ∈ xs, ∀ ys, d ≠ .tup ys) where
  frame := fun i h h' q k => by
    obtain ⟨⟨o, ho, r⟩, ⟨o', ho', r'⟩, rs, hnt⟩ := q
    refine ⟨⟨o, k I (by simp) o ho, r⟩, ⟨o', k tu (by simp) o' ho', r'⟩, ?_, hnt⟩
    clear r' ho'
    generalize vs.toList = l at rs
    induction l generalizing xs with
    | nil => cases rs; exact .nil
    | cons v l ih =>
      cases rs with
      | cons r1 rs =>
        refine .cons ?_ (ih (fun d hd => hnt d (.tail _ hd)) rs)
        cases r1 with
        | val => exact .val _
        | int => exact .int _ _
        | str => exact .str _ _
        | bytes => exact .bytes _ _
        | tup => exact absurd rfl (hnt _ (.head _) _)
  flds := fun i h b q hb => by
    obtain ⟨⟨o, ho, hc, hd⟩, ⟨o', ho', hc', m, hd'⟩, _⟩ := q
    rcases List.mem_cons.mp hb with rfl | hb
    · exact ⟨o, ho, .inl ⟨by rw [hc]; decide, _, hd⟩⟩
    · rw [List.mem_singleton.mp hb]
      exact ⟨o', ho', .inr ⟨hc', _, _, hd'⟩⟩
  next := fun A h₀ μ s i x o _ hI hx hn => by
    obtain ⟨hI, hT, rs, hnt⟩ := hI
    obtain ⟨v, hv, rv⟩ := rs.get hx
    obtain ⟨ob, hob, hobc, hobd⟩ := id hI
    refine PyProof.Rows.next_tuple_item hI hT (x := v) (by simpa using hv) fun h' hit hsb => ⟨v, rfl, ?_⟩
    obtain ⟨ob', hob', hobc', _⟩ := id hit
    have tk := ext_tup hsb.extBut hob ⟨_, hobd⟩
    exact letGo_plain hob' hobc' (by decide) ⟨⟨⟨h', s.toks, rfl⟩, tk⟩, .rep (rv.mono tk), ⟨hit, hT.extBut hsb.extBut hne, rs.mono tk, hnt⟩, fun b o' hb e => hsb.extBut b o' (fun z => hb (by simp [z])) e⟩
  done := fun A h₀ μ s o _ hI hn => by
    obtain ⟨hI, hT, rs, hnt⟩ := hI
    obtain ⟨ob, hob, hobc, hobd⟩ := id hI
    have hsz : vs.size = xs.length := by simpa using rs.length
    refine PyProof.Rows.next_tuple_end o.a.hand hI hT (Array.getElem?_eq_none (by omega)) fun h' he => ⟨rfl, ⟨⟨h', s.toks, rfl⟩, ext_tup he hob ⟨_, hobd⟩⟩, fun b o' hb e => he b o' (fun z => hb (by simp [z])) e⟩
  self := fun A i s Q E hI h => wpAny_pyIter_tupleiter hI.1 h
theorem Wit.tuple {es : List Expr} {q : Nat} {p : Pos} {K : List D → (Led → Prop) → Led → Prop} (h : Wl F p es ds μ fun xs μ' => xs.length ≤ sizeLine ∧ (∀ d ∈ xs, ∀ ys, d ≠ .tup ys) ∧ K xs (fun _ => True) μ') : Wit F (.Tuple es q p) t ds μ K := fun A h₀ s ok =>
  wpAny_mono (Wl.tupled (q := q) ok h) (fun v s₁ p1 => by
    obtain ⟨st1, xs, μ1, ⟨hnt, k⟩, r1, ⟨a, rfl, hn⟩, S1⟩ := p1
    obtain ⟨a', vs, e, ht, rs⟩ := r1.tuple
    cases e
    have hlt : a ≠ s₁.heap.objs.size := Nat.ne_of_lt ht.lt
    refine PyProof.Rows.iter_tuple ht ⟨st1.trans (Stp.kept (tk := s₁.toks) (Kept.push _ _)), xs, _, μ1, [s₁.heap.objs.size, a], _, k, Iter.tuple (vs := vs) hlt, ⟨⟨_, Heap.get?_push_size _ rfl, rfl, rfl⟩, ht.push _, rs.mono (Kept.push _ _).tup, hnt⟩, fun b hb => ?_, S1.kept (Kept.push _ _)⟩
    rcases List.mem_cons.mp hb with rfl | hb
    · exact fresh_base S1.keep
    · rw [List.mem_singleton.mp hb]; exact hn) fun _ _ x => x.elim
end

/-! two lists side by side -/
noncomputable def refD : D → Bool
  | .val (.ref _) => true
  | .tup _ => true
  | _ => false
theorem Rep.ref {h : Heap} {v : Value} {d : D} (r : Rep h v d) (f : refD d = true) : flatV v = false := by
  cases r with
  | val v => cases v <;> first | rfl | cases f
  | int => cases f
  | str => cases f
  | bytes => cases f
  | tup => rfl
section
variable {F : Fm} {ds : List (Option D)} {μ : Led}
noncomputable def pairs (xs ys : List D) : List D := (xs.zip ys).map fun p => D.tup [p.1, p.2]
theorem pairs_get {xs ys : List D} {i : Nat} {d : D} (h : (pairs xs ys)[i]? = some d) : ∃ x y, xs[i]? = some x ∧ ys[i]? = some y ∧ d = .tup [x, y] := by
  unfold pairs at h
  rw [List.getElem?_map] at h
  cases q : (xs.zip ys)[i]? with
  | none => rw [q] at h; cases h
  | some p =>
    rw [q] at h
    cases h
    obtain ⟨x, y⟩ := p
    rw [List.getElem?_zip_eq_some] at q
    exact ⟨x, y, q.1, q.2, rfl⟩
theorem zip_ne {h : Heap} {z TI TO i1 i2 l1 l2 : Addr} {k : Nat} {a b : Value} (a1 : IsZip h z TI TO .none) (a3 : IsPair h TO a b) (a4 : (flatV a && flatV b) = false) (h1 : h.IsListIter i1 l1 k) (h2 : h.IsListIter i2 l2 k) {c : Addr} {oc : Obj} {vs : Array Value} {m : Nat}
    (e : h.get? c = some oc) (hq : oc.data = .seq vs m) (hf : vs.toList.all flatV = true) : c ≠ z ∧ c ≠ TO ∧ c ≠ i1 ∧ c ≠ i2 := by
  obtain ⟨ob1, hob1, _, hobd1⟩ := h1
  obtain ⟨ob2, hob2, _, hobd2⟩ := h2
  refine ⟨fun w => ?_, fun w => ?_, fun w => ?_, fun w => ?_⟩
  · rw [w, a1] at e; cases e; cases hq
  · rw [w, a3] at e; cases e; cases hq
    simp only [List.all_cons, List.all_nil, Bool.and_true] at hf
    rw [a4] at hf; cases hf
  · rw [w, hob1] at e; cases e; rw [hobd1] at hq; cases hq
  · rw [w, hob2] at e; cases e; rw [hobd2] at hq; cases hq
theorem ne_add (n : Nat) {a b : Nat} (h : a ≠ b) : n + a ≠ n + b := fun z => h (Nat.add_left_cancel z)
theorem ne_low {l n : Nat} (h : l < n) (k : Nat) : l ≠ n + k := Nat.ne_of_lt (Nat.lt_of_lt_of_le h (Nat.le_add_right n k))
theorem zapart {n l1 l2 : Nat} (h1 : l1 < n) (h2 : l2 < n) : ZipApart (n + 4) (n + 2) (n + 3) n (n + 1) l1 l2 :=
  ⟨ne_add n (a := 2) (b := 4) (by decide), ne_add n (a := 3) (b := 4) (by decide), ne_add n (a := 0) (b := 4) (by decide), ne_add n (a := 1) (b := 4) (by decide), ne_add n (a := 2) (b := 3) (by decide), ne_add n (a := 2) (b := 0) (by decide), ne_add n (a := 2) (b := 1) (by decide), ne_add n (a := 3) (b := 0) (by decide), ne_add n (a := 3) (b := 1) (by decide), ne_add n (a := 0) (b := 1) (by decide), ne_low h1 4, ne_low h1 3, ne_low h1 0, ne_low h1 1, ne_low h2 4, ne_low h2 3, ne_low h2 0, ne_low h2 1⟩
theorem Iter.zip {W : GW} {n : Nat} {z TI TO i1 i2 l1 l2 : Addr} {xs ys : List D} {es : List Expr} {q : Nat} {p : Pos} (Dz : ZipApart z TI TO i1 i2 l1 l2) (hr : ∀ (x y : D) (i : Nat), xs[i]? = some x → ys[i]? = some y → (refD x || refD y) = true) :
    Iter W n (.ref z) (.Tuple es q p) (fun μ => Lis W μ (.ref l1) xs ∧ Lis W μ (.ref l2) ys) (pairs xs ys) [z, TI, TO, i1, i2]
      (fun i h => IsZip h z TI TO .none ∧ IsPair h TI (.ref i1) (.ref i2) ∧ (∃ a b, IsPair h TO a b ∧ (flatV a && flatV b) = false) ∧ h.IsListIter i1 l1 i ∧ h.IsListIter i2 l2 i) where
  frame := fun i h h' q k => by
    obtain ⟨a1, a2, ⟨a, b, a3, a4⟩, ⟨o1, h1, r1⟩, ⟨o2, h2, r2⟩⟩ := q
    exact ⟨k z (by simp) _ a1, k TI (by simp) _ a2, ⟨a, b, k TO (by simp) _ a3, a4⟩, ⟨o1, k i1 (by simp) _ h1, r1⟩, ⟨o2, k i2 (by simp) _ h2, r2⟩⟩
  flds := fun i h b q hb => by
    obtain ⟨a1, a2, ⟨a, b', a3, a4⟩, ⟨o1, h1, c1, d1⟩, ⟨o2, h2, c2, d2⟩⟩ := q
    simp only [List.mem_cons, List.not_mem_nil, or_false] at hb
    rcases hb with rfl | rfl | rfl | rfl | rfl
    · exact ⟨_, a1, .inl ⟨(by decide : Value.type "zip" ≠ Value.type "list"), _, rfl⟩⟩
    · exact ⟨_, a2, .inr ⟨rfl, _, _, rfl⟩⟩
    · exact ⟨_, a3, .inr ⟨rfl, _, _, rfl⟩⟩
    · exact ⟨_, h1, .inl ⟨by rw [c1]; decide, _, d1⟩⟩
    · exact ⟨_, h2, .inl ⟨by rw [c2]; decide, _, d2⟩⟩
  next := fun A h₀ μ s i d o hs hI hx hn => by
    obtain ⟨a1, a2, ⟨a, b, a3, a4⟩, h1, h2⟩ := hI
    obtain ⟨x, y, ex, ey, rfl⟩ := pairs_get hx
    obtain ⟨_, v1, e, hl1, rs1⟩ := hs.1.at o.glb o.led (.val _)
    cases e
    obtain ⟨_, v2, e, hl2, rs2⟩ := hs.2.at o.glb o.led (.val _)
    cases e
    obtain ⟨vx, hvx, rx⟩ := rs1.get ex
    obtain ⟨vy, hvy, ry⟩ := rs2.get ey
    refine wpAny_pyNext_zip_item Dz a1 a2 a3 h1 h2 hl1 hl2 (x := vx) (y := vy) (by simpa using hvx) (by simpa using hvy) fun h' b1 b2 b3 b4 b5 b6 hk => ⟨_, rfl, ?_⟩
    refine wpAny_letOwnedTupleGo_zip b1 fun h'' c1 hsb => ?_
    have tk : TupKeep s.heap h'' := fun c oc vs m e hc hq hf => by
      obtain ⟨n1, n2, n3, n4⟩ := zip_ne a1 a3 a4 h1 h2 e hq hf
      exact hsb.extBut _ _ n1 (hk c oc n1 n2 n3 n4 e)
    have hTz : s.heap.objs.size ≠ z := fun w => absurd (Heap.lt_size a1) (by rw [← w]; exact Nat.lt_irrefl _)
    have hzlt : z ≠ s.heap.objs.size := Ne.symm hTz
    refine ⟨⟨⟨h'', s.toks, rfl⟩, tk⟩, .tup (hsb.extBut _ _ hTz b5) rfl rfl ?_, ⟨c1, ?_, ⟨vx, vy, ?_, ?_⟩, ?_, ?_⟩, fun c oc hc e => ?_⟩
    · exact .cons (rx.mono tk) (.cons (ry.mono tk) .nil)
    · exact hsb.extBut _ _ Dz.TIz (hk TI _ Dz.TIz Dz.TITO Dz.TIi1 Dz.TIi2 a2)
    · exact hsb.extBut _ _ Dz.TOz b2
    · have := hr x y i ex ey
      simp only [Bool.or_eq_true] at this
      rcases this with f | f
      · rw [rx.ref f]; rfl
      · rw [ry.ref f]; exact Bool.and_false _
    · exact b3.extBut hsb.extBut Dz.i1z
    · exact b4.extBut hsb.extBut Dz.i2z
    · simp only [List.mem_cons, List.not_mem_nil, or_false, not_or] at hc
      exact hsb.extBut _ _ hc.1 (hk c oc hc.1 hc.2.2.1 hc.2.2.2.1 hc.2.2.2.2 e)
  done := fun A h₀ μ s o hs hI hn => by
    obtain ⟨a1, a2, ⟨a, b, a3, a4⟩, h1, h2⟩ := hI
    obtain ⟨_, v1, e, hl1, rs1⟩ := hs.1.at o.glb o.led (.val _)
    cases e
    obtain ⟨_, v2, e, hl2, rs2⟩ := hs.2.at o.glb o.led (.val _)
    cases e
    have s1 : v1.size = xs.length := by simpa using rs1.length
    have s2 : v2.size = ys.length := by simpa using rs2.length
    have hlen : (pairs xs ys).length = min xs.length ys.length := by simp [pairs]
    have hend : v1[(pairs xs ys).length]? = none ∨ v2[(pairs xs ys).length]? = none := by
      rw [hlen]
      rcases Nat.le_total xs.length ys.length with h | h
      · exact .inl (Array.getElem?_eq_none (by rw [s1, Nat.min_eq_left h]; exact Nat.le_refl _))
      · exact .inr (Array.getElem?_eq_none (by rw [s2, Nat.min_eq_right h]; exact Nat.le_refl _))
    refine wpAny_pyNext_zip_end o.a.hand Dz a1 a2 a3 h1 h2 hl1 hl2 hend fun h' hk => ⟨rfl, ⟨⟨h', s.toks, rfl⟩, fun c oc vs m e hc hq hf => ?_⟩, fun c oc hc e => ?_⟩
    · obtain ⟨n1, n2, n3, n4⟩ := zip_ne a1 a3 a4 h1 h2 e hq hf
      exact hk c oc n1 n2 n3 n4 e
    · simp only [List.mem_cons, List.not_mem_nil, or_false, not_or] at hc
      exact hk c oc hc.1 hc.2.2.1 hc.2.2.2.1 hc.2.2.2.2 e
  self := fun A i s Q E hI h => wpAny_pyIter_zip hI.1 h

theorem Wit.zip {f : Expr} {xs : List Expr} {p : Pos} {es : List Expr} {q : Nat} {tp : Pos} {K : List D → (Led → Prop) → Led → Prop} (hnm : ∀ e, eval (.Call f xs [] p) e = (do callWith p (← eval f e) [] (backTo p (starEach xs e)) [])) (hp : ∀ e, (starEach xs e).any (·.1) = false)
    (h : Wp F f ds μ fun d μ1 => d = .val (.type "zip") ∧ Wl F p xs ds μ1 fun ys μ2 => ∃ d1 d2 as bs, ys = [d1, d2] ∧ Lis F.W μ2 d1 as ∧ Lis F.W μ2 d2 bs ∧ (∀ (x y : D) (i : Nat), as[i]? = some x → bs[i]? = some y → (refD x || refD y) = true) ∧
      K (pairs as bs) (fun μ => Lis F.W μ d1 as ∧ Lis F.W μ d2 bs) μ2) :
    Wit F (.Call f xs [] p) (.Tuple es q tp) ds μ K := fun A h₀ s ok => by
  rw [hnm]
  refine wpAny_bind (wpAny_mono (h A h₀ s ok) (fun v s₁ p1 => ?_) fun _ _ x => x.elim)
  refine p1.el fun st1 d μ1 hk3 r1 S1 => ?_
  obtain ⟨rfl, k1⟩ := hk3
  cases r1
  refine callWith_any (.ty _) (backTo_plain.trans (hp _)) (wpAny_mono (k1 A h₀ s₁ (ok.to S1)) (fun vs s₂ p2 => ?_) fun _ _ x => x.elim)
  refine p2.el fun st2 ys μ2 hk3 r2 S2 => ?_
  obtain ⟨d1, d2, as, bs, rfl, L1, L2, hr, k⟩ := hk3
  have G := F.W.keeps ok.g S2.keep
  refine ⟨G, ?_⟩
  obtain ⟨v, w, rfl, q1, q2⟩ := reps2 r2
  obtain ⟨l1, v1, rfl, hl1, _⟩ := L1.at G S2.led q1
  obtain ⟨l2, v2, rfl, hl2, _⟩ := L2.at G S2.led q2
  have e1 : d1 = .ref l1 := by cases L1 <;> (cases q1; rfl)
  have e2 : d2 = .ref l2 := by cases L2 <;> (cases q2; rfl)
  subst e1 e2
  refine call_zip_2 hl1 hl2 fun h' b1 b2 b3 b4 b5 b6 kk => ?_
  have lt1 : @LT.lt Nat _ l1 s₂.heap.objs.size := by obtain ⟨o, ho, _⟩ := hl1; exact Heap.lt_size ho
  have lt2 : @LT.lt Nat _ l2 s₂.heap.objs.size := by obtain ⟨o, ho, _⟩ := hl2; exact Heap.lt_size ho
  have kk' : Kept s₂.heap h' := kk
  refine wpAny_pyIter_zip b1 ⟨(st1.trans st2).trans (Stp.kept (tk := s₂.toks) kk'), pairs as bs, _, μ2, [s₂.heap.objs.size + 4, s₂.heap.objs.size + 2, s₂.heap.objs.size + 3, s₂.heap.objs.size, s₂.heap.objs.size + 1], _, k, Iter.zip (l1 := l1) (l2 := l2) ?_ hr, ⟨b1, b2, ⟨_, _, b3, rfl⟩, b4, b5⟩, fun b hb => ?_, S2.kept kk'⟩
  · exact zapart lt1 lt2
  · have hb' : @LE.le Nat _ s₂.heap.objs.size b := by
      simp only [List.mem_cons, List.not_mem_nil, or_false] at hb
      rcases hb with h | h | h | h | h <;> subst h <;> first | exact Nat.le_refl _ | exact Nat.le_add_right _ _
    exact get_none_of S2.keep (Heap.get?_none_of_le hb')
end
end Mine

namespace Mine
open PySem PySem.Calls PySem.SeqAt
/-! ## Subscripts -/
/-- types that are asked for an item -/
inductive TyS (W : GW) (μ : Led) : D → String → Prop
  | bytes (b : List UInt8) : TyS W μ (.bytes b) "bytes"
  | tup (ds : List D) : TyS W μ (.tup ds) "tuple"
  | list {d : D} {ds : List D} (h : Lis W μ d ds) : TyS W μ d "list"
theorem TyS.is {W : GW} {μ : Led} {h₀ : Heap} {s : Shared} {d : D} {T : String} {v : Value} (t : TyS W μ d T) (g : W.Glb s.heap) (l : LedOk h₀ μ s.heap) (r : Rep s.heap v d) : s.TypeIs v T := by
  cases t with
  | bytes => cases r; rfl
  | tup => cases r with | tup ho hc hd _ _ => exact ⟨_, ho, hc⟩
  | list h => obtain ⟨a, vs, rfl, hl, _⟩ := h.at g l r; exact hl.typeIs
theorem TyS.look {W : GW} {μ : Led} {d : D} {T : String} (t : TyS W μ d T) : ∃ id, typeLookup (.type T) "__getitem__" = pure (some (.builtin id)) := by
  cases t with
  | bytes => exact ⟨_, PySem.W.FB.slot_bytes_getitem.lookup⟩
  | tup => exact ⟨_, F.slot_tuple_getitem.lookup⟩
  | list => exact ⟨_, list_getitem_lookup⟩

section
variable {F : Fm} {ds : List (Option D)} {μ : Led} {K : D → Led → Prop}

theorem sub_tail {W : GW} {A : Around} {E : Value → Shared → Prop} {s : Shared} {value slice : Expr} {o i : Value} {T id : String} {vs : List Value} {Q : Value → Shared → Prop} (hT : s.TypeIs o T) (hl : typeLookup (.type T) "__getitem__" = pure (some (.builtin id)))
    (hs : subscripted slice false o i = operate vs (getItem o i)) (h : wpAny (model W.prog W.w) A (getItem o i) Q E s) :
    wpAny (model W.prog W.w) A (do let r ← subscripted slice (← getitemInPython o) o i; letTemporaryGo value o r; pure r) Q E s := by
  refine wpAny_bind ?_
  rw [getitemInPython_of_ne hT.not_modules]
  refine wpAny_bind (wpAny_specialOf hT hl ?_)
  have fin : wpAny (model W.prog W.w) A (operate vs (getItem o i)) (fun r s₃ => wpAny (model W.prog W.w) A (letTemporaryGo value o r >>= fun _ => pure r) Q E s₃) E s :=
    wpAny_operating (wpAny_mono h (fun r s₃ h₃ => wpAny_bind (wpAny_letTemporaryGo (wpAny_pure h₃))) fun _ _ x => x)
  refine wpAny_pure (wpAny_bind ?_)
  rw [hs]
  exact fin

noncomputable abbrev kSub2 (F : Fm) (d1 : D) (K : D → Led → Prop) : D → Led → Prop := fun d2 μ2 => (∃ T, TyS F.W μ2 d1 T) ∧ W2 F.W F.n getItem d1 d2 μ2 K
noncomputable abbrev kSub (F : Fm) (slice : Expr) (ds : List (Option D)) (K : D → Led → Prop) : D → Led → Prop := fun d1 μ1 => Wp F slice ds μ1 (kSub2 F d1 K)
theorem Wp.sub {value slice : Expr} {pos : Pos} (hs : ∀ o i, subscripted slice false o i = operate [o, i] (getItem o i))
    (h : Wp F value ds μ (kSub F slice ds K)) : Wp F (.Subscript value slice pos) ds μ K := fun A h₀ s ok => by
  rw [eval_Subscript]
  refine wpAny_bind (wpA (h A h₀ s ok) fun v s₁ p1 => ?_)
  refine p1.el fun st1 d1 μ1 k1 r1 S1 => ?_
  refine wpAny_bind (wpAny_holding (wpA (k1 A h₀ s₁ (ok.to S1)) fun i s₂ p2 => ?_))
  refine p2.el fun st2 d2 μ2 hk3 r2 S2 => ?_
  obtain ⟨⟨T, hT⟩, k2⟩ := hk3
  have ok2 := ok.to S2
  have G := F.W.keeps ok.g S2.keep
  refine wpAny_bind (wpAny_standAt ?_)
  obtain ⟨id, hl⟩ := hT.look
  exact sub_tail (hT.is G S2.led (r1.mono st2.tup)) hl (hs _ _) (Wp.op2 (ok := ok) st1 r1 st2 r2 S2 k2)

/-! ## Slices -/
noncomputable def Wpart (F : Fm) (x : Option Expr) (ds : List (Option D)) (μ : Led) (K : Option Int → Led → Prop) : Prop :=
  ∀ A h₀ s, Ok F A h₀ ds μ s → wpAny (model F.W.prog F.W.w) A (evalPart x F.e) (fun v s' => Stp s s' ∧ ∃ i μ', K i μ' ∧ IsPart v i ∧ St h₀ F.e F.ns ds μ' s') Nev s
theorem Wpart.none {K : Option Int → Led → Prop} (k : K Option.none μ) : Wpart F Option.none ds μ K := fun _ _ s ok => wpAny_pure ⟨.refl s, _, μ, k, .none, ok.st⟩
noncomputable abbrev kInt (K : Option Int → Led → Prop) : D → Led → Prop := fun d μ' => ∃ i, d = .int i ∧ K (some i) μ'
theorem kInt.go {K : Option Int → Led → Prop} {i : Int} {μ : Led} (k : K (some i) μ) : kInt K (.int i) μ := ⟨i, rfl, k⟩
theorem Wpart.some {x : Expr} {K : Option Int → Led → Prop} (h : Wp F x ds μ (kInt K)) : Wpart F (some x) ds μ K := fun A h₀ s ok => by
  rw [evalPart_some]
  refine wpA (h A h₀ s ok) fun v s₁ p1 => ?_
  refine p1.el fun st1 d μ1 hk3 r S => ?_
  obtain ⟨i, rfl, k⟩ := hk3
  cases r
  exact ⟨st1, _, μ1, k, .int _ _, S⟩
/-- what a slice picks -/
noncomputable def cut {α : Type} (b : List α) (lo hi : Option Int) : List α := (b.drop (lo.elim 0 (clipAt b.length))).take (hi.elim b.length (clipAt b.length) - lo.elim 0 (clipAt b.length))
theorem cut_length_le {α : Type} (b : List α) (lo hi : Option Int) : (cut b lo hi).length ≤ b.length := by unfold cut; rw [List.length_take, List.length_drop]; exact Nat.le_trans (Nat.min_le_right _ _) (Nat.sub_le _ _)
theorem cut_map {α β : Type} (f : α → β) (b : List α) (lo hi : Option Int) : cut (b.map f) lo hi = (cut b lo hi).map f := by unfold cut; simp [List.map_take, List.map_drop]

theorem slice_run {value : Expr} {lower upper : Option Expr} {p pos : Pos} (Ka : D → Value → Option Int → Option Int → Led → Prop)
    (hget : ∀ A h₀ s d v l u lo hi μ3 a, Oo F.W F.n A h₀ μ3 s → Rep s.heap v d → s.heap.IsSliceOf a l u .none → IsPart l lo → IsPart u hi → Ka d v lo hi μ3 → wpAny (model F.W.prog F.W.w) A (getItem v (.ref a)) (Po h₀ K s) Nev s)
    (h : Wp F value ds μ fun d1 μ1 => Wpart F lower ds μ1 fun lo μ2 => Wpart F upper ds μ2 fun hi μ3 => (∃ T, TyS F.W μ3 d1 T) ∧ ∀ v, Ka d1 v lo hi μ3) : Wp F (.Subscript value (.Slice lower upper none p) pos) ds μ K := fun A h₀ s ok => by
  rw [eval_Subscript]
  refine wpAny_bind (wpA (h A h₀ s ok) fun v s₁ p1 => ?_)
  obtain ⟨st1, d1, μ1, k1, r1, S1⟩ := p1
  refine wpAny_bind (wpAny_holding (wpAny_Slice (wpA (k1 A h₀ s₁ (ok.to S1)) fun l s₂ p2 => ?_)))
  obtain ⟨st2, lo, μ2, k2, pl, S2⟩ := p2
  refine wpA (k2 A h₀ s₂ (ok.to S2)) fun u s₃ p3 => ?_
  obtain ⟨st3, hi, μ3, ⟨⟨T, hT⟩, k3⟩, pu, S3⟩ := p3
  rw [evalPart_none]
  refine wpAny_pure (wpAny_bind (wpAny_standAt ?_))
  have kk := Kept.push s₃.heap { cls := .type "slice", data := .fields #[l, u, .none] }
  have S4 := S3.kept (tk := s₃.toks) kk
  have r4 := r1.mono ((st2.trans st3).tup.trans kk.tup)
  have G := F.W.keeps ok.g S4.keep
  obtain ⟨id, hl⟩ := hT.look
  have ok4 := ok.to S4
  refine sub_tail (T := T) (vs := [.ref s₃.heap.objs.size, v]) (hT.is G S4.led r4) hl (by rfl) ?_
  exact wpA (hget A _ _ d1 v l u lo hi μ3 _ ok4.op r4 (Heap.IsSliceOf.new ..) pl pu (k3 v)) fun _ _ q => (ok4.back q).after (((st1.trans st2).trans st3).trans (Stp.kept (tk := s₃.toks) kk))

noncomputable abbrev kSl3 (b : List UInt8) (lo : Option Int) (K : D → Led → Prop) : Option Int → Led → Prop := fun hi μ3 => K (.bytes (cut b lo hi)) μ3
noncomputable abbrev kSl2 (F : Fm) (upper : Option Expr) (ds : List (Option D)) (b : List UInt8) (K : D → Led → Prop) : Option Int → Led → Prop := fun lo μ2 => Wpart F upper ds μ2 (kSl3 b lo K)
noncomputable abbrev kSl (F : Fm) (lower upper : Option Expr) (ds : List (Option D)) (K : D → Led → Prop) : D → Led → Prop := fun d1 μ1 => ∃ b, d1 = .bytes b ∧ b.length ≤ 16777216 ∧ Wpart F lower ds μ1 (kSl2 F upper ds b K)
theorem kSl.go {F : Fm} {lower upper : Option Expr} {ds : List (Option D)} {K : D → Led → Prop} {b : List UInt8} {μ : Led} (h : b.length ≤ 16777216 ∧ Wpart F lower ds μ (kSl2 F upper ds b K)) : kSl F lower upper ds K (.bytes b) μ := ⟨b, rfl, h⟩
theorem Wp.slice_bytes {value : Expr} {lower upper : Option Expr} {p pos : Pos}
    (h : Wp F value ds μ (kSl F lower upper ds K)) : Wp F (.Subscript value (.Slice lower upper none p) pos) ds μ K := by
  refine slice_run (fun d _ lo hi μ3 => ∃ b, d = .bytes b ∧ b.length ≤ 16777216 ∧ K (.bytes (cut b lo hi)) μ3) ?_ (h.mono fun d1 μ1 q => ?_)
  · rintro A h₀ s d v l u lo hi μ3 a o r hs pl pu ⟨b, rfl, hz, k⟩
    cases r
    have e : PySem.W.KBy.picked b.toArray lo hi = (cut b lo hi).toArray := by rw [PySem.W.KBc.picked_eq]; unfold cut; simp
    refine getItem_meets (PySem.W.typeIs_bytes _ _ _) (by decide) PySem.W.FB.slot_bytes_getitem PySem.W.FB.entry_bytes_getitem (PySem.W.FB.args_bytes_getitem_2 _ _) (PySem.W.KBc.meets_slice2 b.toArray _ _ pl pu) ⟨hs, ?_, fun t' k' => ?_⟩
    · rw [e, sizeLine_eq]; simpa using Nat.le_trans (cut_length_le _ _ _) hz
    · rw [e]; exact Po.tok o k (.bytes _ _)
  · obtain ⟨b, rfl, hz, k⟩ := q
    exact fun A h₀ s ok => wpA (k A h₀ s ok) fun v s1 p1 => ⟨p1.1, let ⟨lo, μ2, k2, r⟩ := p1.2; ⟨lo, μ2, fun A h₀ s ok => wpA (k2 A h₀ s ok) fun v s1 p1 => ⟨p1.1, let ⟨hi, μ3, k3, r⟩ := p1.2; ⟨hi, μ3, ⟨⟨_, .bytes b⟩, fun v => ⟨b, rfl, hz, k3⟩⟩, r⟩⟩, r⟩⟩

theorem Wp.slice_list {value : Expr} {lower upper : Option Expr} {p pos : Pos}
    (h : Wp F value ds μ fun d1 μ1 => Wpart F lower ds μ1 fun lo μ2 => Wpart F upper ds μ2 fun hi μ3 => ∃ xs, Lis F.W μ3 d1 xs ∧ xs.length ≤ sizeLine ∧ ∀ a, μ3 a = none → K (.ref a) (upd μ3 a (cut xs lo hi))) : Wp F (.Subscript value (.Slice lower upper none p) pos) ds μ K := by
  refine slice_run (fun d _ lo hi μ3 => ∃ xs, Lis F.W μ3 d xs ∧ xs.length ≤ sizeLine ∧ ∀ a, μ3 a = none → K (.ref a) (upd μ3 a (cut xs lo hi))) ?_ (h.mono fun d1 μ1 q => ?_)
  · rintro A h₀ s d v l u lo hi μ3 a o r hs pl pu ⟨xs, hl, hz, k⟩
    obtain ⟨ax, vs, rfl, hl, rs⟩ := hl.at o.glb o.led r
    have e0 : vs.size = xs.length := by simpa using rs.length
    refine wpAny_getItem_list_slice hl hs pl pu .none (by simp) ?_ (by rw [e0]; exact hz)
    refine Po.list (tk := s.toks) o (Kept.push _ _) (get_size _) ⟨_, _, _, Heap.get?_push_size _ rfl, rfl, rfl, rfl, ?_⟩ k
    rw [slicePick_plain]
    unfold cut
    rw [← e0]
    exact ((rs.drop _).take _).mono (Kept.push _ _).tup
  · exact fun A h₀ s ok => wpA (q A h₀ s ok) fun v s1 p1 => ⟨p1.1, let ⟨lo, μ2, k2, r⟩ := p1.2; ⟨lo, μ2, fun A h₀ s ok => wpA (k2 A h₀ s ok) fun v s1 p1 => ⟨p1.1, let ⟨hi, μ3, ⟨xs, k3, k4⟩, r⟩ := p1.2; ⟨hi, μ3, ⟨⟨_, .list k3⟩, fun v => ⟨xs, k3, k4⟩⟩, r⟩⟩, r⟩⟩
end

/-! ## Lists side by side -/
section
variable {W : GW} {n : Nat} {μ : Led} {K : D → Led → Prop}
theorem W2.add_list {d1 d2 : D} {xs ys : List D} (h1 : Lis W μ d1 xs) (h2 : Lis W μ d2 ys) (hz : xs.length + ys.length ≤ sizeLine) (k : ∀ a, μ a = none → K (.ref a) (upd μ a (xs ++ ys))) : W2 W n (binaryOp .Add) d1 d2 μ K := fun A h₀ s v1 v2 o r1 r2 => by
  obtain ⟨l, vs, rfl, hl, rs⟩ := h1.at o.glb o.led r1
  obtain ⟨b, ws, rfl, hb, rt⟩ := h2.at o.glb o.led r2
  obtain ⟨⟨cls, dd, data, sl⟩, ho, hc, n, hd⟩ := id hl
  obtain ⟨⟨cls2, dd2, data2, sl2⟩, ho2, hc2, n2, hd2⟩ := id hb
  simp only at hc hd hc2 hd2
  subst hc hd hc2 hd2
  have e1 : vs.size = xs.length := by simpa using rs.length
  have e2 : ws.size = ys.length := by simpa using rt.length
  refine concat_meets ⟨_, ho, rfl⟩ ⟨_, ho2, rfl⟩ noFill_list_add seq_list_add PySem.F.slot_list_add PySem.F.entry_list_add (PySem.F.args_list_add_2 _ _) (PyProof.Rows.list_addW l b vs ws n n2 dd dd2 sl sl2 (by rw [e1, e2]; exact hz)) ⟨ho, ho2, ?_⟩
  refine Po.list o (Kept.push _ _) (get_size _) ⟨_, _, _, Heap.get?_push_size _ rfl, rfl, rfl, rfl, ?_⟩ k
  rw [Array.toList_append]
  exact (rs.append rt).mono (Kept.push _ _).tup

theorem empty_all {k : Nat} {e : Nat → Bool} (h : k = 0) : (List.range k).all e = true := by subst h; rfl
theorem W2.eq_nil {d1 d2 : D} {xs : List D} (h1 : Lis W μ d1 xs) (h2 : Lis W μ d2 []) (k : K (.bool (xs.isEmpty)) μ) : W2 W n (compareOp .Eq) d1 d2 μ K := fun A h₀ s v1 v2 o r1 r2 => by
  obtain ⟨l, vs, rfl, hl, rs⟩ := h1.at o.glb o.led r1
  obtain ⟨b, ws, rfl, hb, rt⟩ := h2.at o.glb o.led r2
  have e1 : vs.size = xs.length := by simpa using rs.length
  have e2 : ws.size = 0 := by simpa using rt.length
  cases xs with
  | nil =>
    have e1 : vs.size = 0 := e1
    refine eq_listAt (e := fun _ => true) hl hb (by omega) o.a.cl (fun j h1 h2 => by omega) ?_
    rw [empty_all e1]
    exact Po.here o k (.val _)
  | cons x xs => exact eq_list_lengthsAt hl hb (by rw [e1, e2]; rfl) o.a.cl (Po.here o k (.val _))
theorem W2.ne_nil {d1 d2 : D} {xs : List D} (h1 : Lis W μ d1 xs) (h2 : Lis W μ d2 []) (k : K (.bool (!xs.isEmpty)) μ) : W2 W n (compareOp .NotEq) d1 d2 μ K := fun A h₀ s v1 v2 o r1 r2 => by
  obtain ⟨l, vs, rfl, hl, rs⟩ := h1.at o.glb o.led r1
  obtain ⟨b, ws, rfl, hb, rt⟩ := h2.at o.glb o.led r2
  have e1 : vs.size = xs.length := by simpa using rs.length
  have e2 : ws.size = 0 := by simpa using rt.length
  cases xs with
  | nil =>
    have e1 : vs.size = 0 := e1
    refine RcNeAt.lists (e := fun _ => true) hl hb (by omega) o.a.cl (fun j h1 h2 => by omega) W.prog W.w _ _ ?_
    rw [empty_all e1]
    exact Po.here o k (.val _)
  | cons x xs => exact RcNeAt.lists_lengths hl hb (by rw [e1, e2]; rfl) o.a.cl W.prog W.w _ _ (Po.here o k (.val _))

noncomputable abbrev pairD (p : Int × Int) : D := .tup [.int p.1, .int p.2]
theorem eqAt_pair {A : Around} {s : Shared} {v w : Value} {p q : Int × Int} (hu : A.units < cLine) (r1 : Rep s.heap v (pairD p)) (r2 : Rep s.heap w (pairD q)) : EqAt A s v w (p == q) := by
  cases r1 with
  | @tup a oa va na _ ho hc hd hf ra =>
  cases r2 with
  | @tup b ob vb nb _ ho2 hc2 hd2 hf2 rb =>
  obtain ⟨x1, x2, ea, q1, q2⟩ := reps2 ra
  obtain ⟨y1, y2, eb, q3, q4⟩ := reps2 rb
  by_cases hab : a = b
  · subst hab
    rw [ho] at ho2; cases ho2
    rw [hd] at hd2; cases hd2
    rw [ea] at eb
    cases eb
    have : p = q := by
      obtain ⟨p1, p2⟩ := p
      obtain ⟨p3, p4⟩ := q
      cases q1; cases q2; cases q3; cases q4
      rfl
    subst this
    rw [beq_self_eq_true]
    exact EqAt.same _
  · have e : (p == q) = ((List.range (min va.size vb.size)).all (fun j => if j = 0 then p.1 == q.1 else p.2 == q.2) && va.size == vb.size) := by
      have h1 : va.size = 2 := by have := congrArg List.length ea; simpa using this
      have h2 : vb.size = 2 := by have := congrArg List.length eb; simpa using this
      rw [h1, h2]
      show (p.1 == q.1 && p.2 == q.2) = _
      simp [List.range_succ]
    rw [e]
    refine EqAt.of_refs hab (RcAt.tuples ⟨oa, ho, hc, na, hd⟩ ⟨ob, ho2, hc2, nb, hd2⟩ hu fun j h1 h2 => ?_)
    have g1 : va.toList[j]? = some va[j] := by simp [h1]
    have g2 : vb.toList[j]? = some vb[j] := by simp [h2]
    rw [ea] at g1
    rw [eb] at g2
    match j with
    | 0 =>
      simp at g1 g2
      rw [← g1, ← g2]
      cases q1; cases q3
      exact EqAt.int_int _ _ _ _
    | 1 =>
      simp at g1 g2
      rw [← g1, ← g2]
      cases q2; cases q4
      exact EqAt.int_int _ _ _ _
    | j + 2 => simp at g1
theorem AOk.cl1 {A : Around} {n : Nat} (x : AOk A n) : A.in1.units < cLine := by
  have := x.units; have h : 2000 < cLine := (by decide); show A.units + 1 < _; omega
theorem all_range_eq {α : Type} [BEq α] [LawfulBEq α] : ∀ (xs ys : List α), xs.length = ys.length → ((List.range xs.length).all fun j => xs[j]? == ys[j]?) = (xs == ys) := by
  intro xs ys hl
  rw [Bool.eq_iff_iff]
  simp only [List.all_eq_true, List.mem_range, beq_iff_eq]
  constructor
  · intro h
    refine List.ext_getElem? fun i => ?_
    by_cases hi : i < xs.length
    · exact h i hi
    · rw [List.getElem?_eq_none (by omega), List.getElem?_eq_none (by omega)]
  · rintro rfl _ _; rfl
theorem W2.eq_pairs {d1 d2 : D} {ps qs : List (Int × Int)} (h1 : Lis W μ d1 (ps.map pairD)) (h2 : Lis W μ d2 (qs.map pairD)) (k : K (.bool (ps == qs)) μ) : W2 W n (compareOp .Eq) d1 d2 μ K := fun A h₀ s v1 v2 o r1 r2 => by
  obtain ⟨l, vs, rfl, hl, rs⟩ := h1.at o.glb o.led r1
  obtain ⟨b, ws, rfl, hb, rt⟩ := h2.at o.glb o.led r2
  have e1 : vs.size = ps.length := by simpa using rs.length
  have e2 : ws.size = qs.length := by simpa using rt.length
  by_cases hlen : ps.length = qs.length
  · refine eq_listAt (e := fun j => ps[j]? == qs[j]?) hl hb (by omega) o.a.cl (fun j h1 h2 => ?_) ?_
    · have l1 : j < ps.length := e1 ▸ h1
      have l2 : j < qs.length := e2 ▸ h2
      have g1 : (ps.map pairD)[j]? = some (pairD ps[j]) := by simp [l1]
      have g2 : (qs.map pairD)[j]? = some (pairD qs[j]) := by simp [l2]
      obtain ⟨v, hv, rv⟩ := rs.get g1
      obtain ⟨w, hw, rw'⟩ := rt.get g2
      have a1 : vs[j] = v := by have : vs.toList[j]? = some vs[j] := (by simp [h1]); rw [hv] at this; exact (Option.some.inj this).symm
      have a2 : ws[j] = w := by have : ws.toList[j]? = some ws[j] := (by simp [h2]); rw [hw] at this; exact (Option.some.inj this).symm
      rw [a1, a2]
      have : (ps[j]? == qs[j]?) = (ps[j] == qs[j]) := by
        rw [List.getElem?_eq_getElem l1, List.getElem?_eq_getElem l2]; rfl
      show EqAt A.in1 s v w (ps[j]? == qs[j]?)
      rw [this]
      exact eqAt_pair o.a.cl1 rv rw'
    · rw [e1, all_range_eq ps qs hlen]
      exact Po.here o k (.val _)
  · refine eq_list_lengthsAt hl hb (by rw [e1, e2]; simpa using hlen) o.a.cl ?_
    have : (ps == qs) = false := by
      cases q : ps == qs with
      | false => rfl
      | true => exact absurd (congrArg List.length (eq_of_beq q)) hlen
    rw [this] at k
    exact Po.here o k (.val _)
theorem W2.in_ints {d : D} {k' : Int} {ns : List Int} (h1 : Lis W μ d (ns.map D.int)) (k : K (.bool (ns.any (· == k'))) μ) : W2 W n (compareOp .In) (.int k') d μ K := fun A h₀ s v1 v2 o r1 r2 => by
  cases r1
  obtain ⟨l, vs, rfl, hl, rs⟩ := h1.at o.glb o.led r2
  exact PyProof.Rows.in_list_ints (vs := vs.toList) (by simpa using hl) (intsOf rs) (Po.here o k (.val _))
end
end Mine

namespace Mine
open PySem PySem.Calls PySem.SeqAt PySem.W Builtin
set_option maxRecDepth 100000
/-! ## Methods of bytes -/
namespace FBm
theorem slot_find : Slot "bytes" "find" "bytes.find" :=
  .of (owner := "bytes") (n := "find") (by rw [typeLookup_type, builtinLookup_eq_fast]; kernel_rfl) (by decide +kernel) (by decide +kernel) (by decide +kernel)
    (by first | exact .inl (by decide +kernel) | exact .inr (by decide +kernel)) (by rw [isSubtype_type]; kernel_rfl)
theorem slot_split : Slot "bytes" "split" "bytes.split" :=
  .of (owner := "bytes") (n := "split") (by rw [typeLookup_type, builtinLookup_eq_fast]; kernel_rfl) (by decide +kernel) (by decide +kernel) (by decide +kernel)
    (by first | exact .inl (by decide +kernel) | exact .inr (by decide +kernel)) (by rw [isSubtype_type]; kernel_rfl)
theorem slot_rstrip : Slot "bytes" "rstrip" "bytes.rstrip" :=
  .of (owner := "bytes") (n := "rstrip") (by rw [typeLookup_type, builtinLookup_eq_fast]; kernel_rfl) (by decide +kernel) (by decide +kernel) (by decide +kernel)
    (by first | exact .inl (by decide +kernel) | exact .inr (by decide +kernel)) (by rw [isSubtype_type]; kernel_rfl)
theorem slot_join : Slot "bytes" "join" "bytes.join" :=
  .of (owner := "bytes") (n := "join") (by rw [typeLookup_type, builtinLookup_eq_fast]; kernel_rfl) (by decide +kernel) (by decide +kernel) (by decide +kernel)
    (by first | exact .inl (by decide +kernel) | exact .inr (by decide +kernel)) (by rw [isSubtype_type]; kernel_rfl)
theorem entry_find : entryFor table "bytes.find" = some «bytes.find» := entryFor_of_tree (by kernel_rfl)
theorem entry_split : entryFor table "bytes.split" = some «bytes.split» := entryFor_of_tree (by kernel_rfl)
theorem entry_rstrip : entryFor table "bytes.rstrip" = some «bytes.rstrip» := entryFor_of_tree (by kernel_rfl)
theorem entry_join : entryFor table "bytes.join" = some «bytes.join» := entryFor_of_tree (by kernel_rfl)
theorem args_find (a b c d : Value) : argsOk "bytes.find" ⟨[a, b, c, d], []⟩ := by
  unfold argsOk; rw [signature?_of (id := "bytes.find") (n := ['d', 'n', 'i', 'f']) (o := ['s', 'e', 't', 'y', 'b']) (by kernel_rfl) FB.owner_bytes]; kernel_rfl
theorem args_split (a b : Value) : argsOk "bytes.split" ⟨[a, b], []⟩ := by
  unfold argsOk; rw [signature?_of (id := "bytes.split") (n := ['t', 'i', 'l', 'p', 's']) (o := ['s', 'e', 't', 'y', 'b']) (by kernel_rfl) FB.owner_bytes]; kernel_rfl
theorem args_rstrip (a b : Value) : argsOk "bytes.rstrip" ⟨[a, b], []⟩ := by
  unfold argsOk; rw [signature?_of (id := "bytes.rstrip") (n := ['p', 'i', 'r', 't', 's', 'r']) (o := ['s', 'e', 't', 'y', 'b']) (by kernel_rfl) FB.owner_bytes]; kernel_rfl
theorem args_join (a b : Value) : argsOk "bytes.join" ⟨[a, b], []⟩ := by
  unfold argsOk; rw [signature?_of (id := "bytes.join") (n := ['n', 'i', 'o', 'j']) (o := ['s', 'e', 't', 'y', 'b']) (by kernel_rfl) FB.owner_bytes]; kernel_rfl
theorem type_find : typeOf (.builtin "bytes.find") = pure (.type "method_descriptor") := by show builtinType _ = _; rw [builtinType_eq_fast]; kernel_rfl
theorem type_split : typeOf (.builtin "bytes.split") = pure (.type "method_descriptor") := by show builtinType _ = _; rw [builtinType_eq_fast]; kernel_rfl
theorem type_rstrip : typeOf (.builtin "bytes.rstrip") = pure (.type "method_descriptor") := by show builtinType _ = _; rw [builtinType_eq_fast]; kernel_rfl
theorem type_join : typeOf (.builtin "bytes.join") = pure (.type "method_descriptor") := by show builtinType _ = _; rw [builtinType_eq_fast]; kernel_rfl
end FBm
theorem meth_find : Meth "bytes" "find" "bytes.find" := ⟨FB.plainAttrs_bytes, FBm.slot_find, FBm.type_find⟩
theorem meth_split : Meth "bytes" "split" "bytes.split" := ⟨FB.plainAttrs_bytes, FBm.slot_split, FBm.type_split⟩
theorem meth_rstrip : Meth "bytes" "rstrip" "bytes.rstrip" := ⟨FB.plainAttrs_bytes, FBm.slot_rstrip, FBm.type_rstrip⟩
theorem meth_join : Meth "bytes" "join" "bytes.join" := ⟨FB.plainAttrs_bytes, FBm.slot_join, FBm.type_join⟩
theorem meth_append : Meth "list" "append" "list.append" := ⟨PySem.F.plainAttrs_list, slot_list_append, type_list_append⟩

/-! ### find -/
/-- where a byte lies first, from lo on and before hi -/
noncomputable def findB (b : List UInt8) (c : UInt8) (lo hi : Nat) : Option Nat := ((List.range (hi - lo)).map (· + lo)).find? fun i => b[i]? == some c
theorem extract_one (b : List UInt8) (c : UInt8) (i : Nat) : (b.toArray.extract i (i + (#[c] : Array UInt8).size) == #[c]) = (b[i]? == some c) := by
  rw [Bool.eq_iff_iff]
  simp only [beq_iff_eq]
  have e : b.toArray.extract i (i + (#[c] : Array UInt8).size) = ((b.drop i).take 1).toArray := by simp [List.extract_eq_take_drop]
  rw [e]
  constructor
  · intro h
    have h := congrArg Array.toList h
    simp at h
    have := congrArg (·[0]?) h
    simpa using this
  · intro h
    obtain ⟨hl, he⟩ := List.getElem?_eq_some_iff.mp h
    rw [List.drop_eq_getElem_cons hl, he]
    rfl
theorem self_some {name short : String} {l m : Nat} {self : Value} {rest : List Value} (h1 : (l == m && rest.length != l) = false) (h2 : ¬ rest.length < l) (h3 : ¬ rest.length > m) : selfAndSome name short l m ⟨self :: rest, []⟩ = pure (self, rest) := by
  unfold selfAndSome noKeywords checkCount
  simp only [h1, h2, h3, List.isEmpty_nil, if_true, if_false, Bool.false_eq_true]
  rfl
theorem self_one {name : String} {self x : Value} : selfAndOne name ⟨[self, x], []⟩ = pure (self, x) := rfl
theorem find_one (b : List UInt8) (c : UInt8) (lo hi : Nat) : Bytes.find? b.toArray #[c] lo hi = findB b c lo hi := by
  unfold Bytes.find? findB
  have e : hi + 1 - (lo + (#[c] : Array UInt8).size) = hi - lo := by exact Nat.add_sub_add_right hi 1 lo
  rw [e]
  congr 1
  funext i
  exact extract_one b c i
theorem wpAny_bound {M : Model} {A : Around} {E : Value → Shared → Prop} {s : Shared} {k : Int} {t : Tok} {Q : Option Int → Shared → Prop} (h : Q (some k) s) : wpAny M A (Bytes.bound? (some (.int k t))) Q E s := by
  unfold Bytes.bound?
  refine wpAny_bind (wpAny_specialOf (T := "int") (typeIs_int s k t) int_index ?_)
  simp only [Option.isNone_some, Bool.false_eq_true, if_false]
  exact wpAny_bind (wpAny_of_eq (a := k) rfl (wpAny_pure h))
theorem gives_find (b : List UInt8) (c : UInt8) (t u x y : Tok) (lo hi : Nat) (h1 : lo ≤ hi) (h2 : hi ≤ b.length) :
    Gives («bytes.find» ⟨[.bytes b.toArray t, .bytes #[c] u, .int lo x, .int hi y], []⟩) (.int (match findB b c lo hi with | some k => (k : Int) | none => -1)) := by
  refine .of_wp fun M A E s Q hq => ?_
  show wpAny M A (Bytes.searchArgs .bytes "find" _ >>= _) _ E s
  refine wpAny_bind ?_
  unfold Bytes.searchArgs
  refine wpAny_bind (wpAny_of_eq (self_some rfl (by simp) (by simp)) ?_)
  show wpAny M A (Bytes.bound? (some (.int lo x)) >>= _) _ E s
  refine wpAny_bind (wpAny_bound ?_)
  show wpAny M A (Bytes.bound? (some (.int hi y)) >>= _) _ E s
  refine wpAny_bind (wpAny_bound ?_)
  show wpAny M A (Bytes.buffer? _ (.bytes #[c] u) >>= _) _ E s
  refine wpAny_bind (wpAny_of_eq KBy.buffer_eq ?_)
  have hw : Bytes.window b.toArray.size (some (lo : Int)) (some (hi : Int)) = ((lo : Int), (hi : Int)) := by
    unfold Bytes.window
    simp only [Option.getD_some]
    have a1 : ¬ ((lo : Int) < 0) := by omega
    have a2 : ¬ ((hi : Int) < 0) := by omega
    simp only [a1, a2, if_false]
    have : min (b.toArray.size : Int) (hi : Int) = hi := by simp; omega
    rw [this]
  refine wpAny_of_eq (a := (b.toArray, #[c], if (Bytes.window b.toArray.size (some (lo : Int)) (some (hi : Int))).2 - (Bytes.window b.toArray.size (some (lo : Int)) (some (hi : Int))).1 < (#[c] : Array UInt8).size then none else some ((Bytes.window b.toArray.size (some (lo : Int)) (some (hi : Int))).1.toNat, (Bytes.window b.toArray.size (some (lo : Int)) (some (hi : Int))).2.toNat))) rfl ?_
  rw [hw]
  by_cases hlt : lo < hi
  · have a3 : ¬ ((hi : Int) - lo < (#[c] : Array UInt8).size) := by simp; omega
    rw [if_neg a3]
    simp only [Option.bind_some, Int.toNat_natCast]
    rw [if_neg (by decide), find_one]
    cases q : findB b c lo hi with
    | some k =>
      rw [q] at hq
      exact wpAny_bind (wpAny_mkInt (wpAny_pure ⟨_, rfl, hq⟩))
    | none =>
      rw [q] at hq
      exact wpAny_bind (wpAny_rule (wpAny_bind (wpAny_mkInt (wpAny_pure ⟨_, rfl, hq⟩))))
  · have e : hi = lo := by omega
    subst e
    have a3 : ((hi : Int) - hi < (#[c] : Array UInt8).size) := by simp
    rw [if_pos a3]
    have q : findB b c hi hi = none := by simp [findB]
    rw [q] at hq
    exact wpAny_bind (wpAny_rule (wpAny_bind (wpAny_mkInt (wpAny_pure ⟨_, rfl, hq⟩))))
section
variable {W : GW} {n : Nat} {μ : Led} {K : D → Led → Prop}
theorem Wc.find {b : List UInt8} {c : UInt8} {lo hi : Int} (h0 : 0 ≤ lo) (h1 : lo ≤ hi) (h2 : hi ≤ b.length) (k : K (.int (match findB b c lo.toNat hi.toNat with | some k => (k : Int) | none => -1)) μ) :
    Wc W n (.builtin "bytes.find") [.bytes b, .bytes [c], .int lo, .int hi] μ K := fun A h₀ s vs o r => by
  obtain ⟨v1, v2, v3, v4, rfl, r1, r2, r3, r4⟩ := reps4 r
  cases r1; cases r2; cases r3; cases r4
  obtain ⟨lo, rfl⟩ := Int.eq_ofNat_of_zero_le h0
  obtain ⟨hi, rfl⟩ := Int.eq_ofNat_of_zero_le (Int.le_trans h0 h1)
  refine call_gives FBm.slot_find (typeIs_bytes _ _ _) FBm.entry_find (FBm.args_find _ _ _ _) (gives_find b c _ _ _ _ lo hi (by omega) (by omega)) ?_
  exact Po.tok o k (.int _ _)
end

theorem same_bytes {M : Model} {A : Around} {E : Value → Shared → Prop} {s : Shared} {b : Array UInt8} {t : Tok} {Q : Value → Shared → Prop} (h : Q (.bytes b t) s) : wpAny M A (Bytes.Kind.same .bytes (.bytes b t)) Q E s := by
  show wpAny M A (typeOf (.bytes b t) >>= fun q => _) Q E s
  exact wpAny_bind (wpAny_typeOf (typeIs_bytes _ _ _) (wpAny_pure h))

/-! ### rstrip -/
noncomputable def rstripB (b set : List UInt8) : List UInt8 := (b.reverse.dropWhile set.contains).reverse
theorem rstripB_length_le (b set : List UInt8) : (rstripB b set).length ≤ b.length := by
  unfold rstripB
  have := (List.dropWhile_sublist set.contains (l := b.reverse)).length_le
  rw [List.length_reverse] at this ⊢
  exact this
theorem rstripB_same {b set : List UInt8} (h : (rstripB b set).length = b.length) : rstripB b set = b := by
  unfold rstripB at h ⊢
  have hs := List.dropWhile_sublist set.contains (l := b.reverse)
  rw [List.length_reverse] at h
  rw [hs.eq_of_length (by rw [List.length_reverse]; exact h), List.reverse_reverse]
section
variable {W : GW} {n : Nat} {μ : Led} {K : D → Led → Prop}
theorem Wc.rstrip {b set : List UInt8} (hz : b.length ≤ 16777216) (k : K (.bytes (rstripB b set)) μ) : Wc W n (.builtin "bytes.rstrip") [.bytes b, .bytes set] μ K := fun A h₀ s vs o r => by
  obtain ⟨v1, v2, rfl, r1, r2⟩ := reps2 r
  cases r1; cases r2
  refine wpAny_call_entry FBm.slot_rstrip (typeIs_bytes _ _ _) FBm.entry_rstrip ?_ (FBm.args_rstrip _ _)
  rename_i t u
  show wpAny _ _ (Bytes.stripM .bytes "rstrip" false true _) _ _ s
  unfold Bytes.stripM
  refine wpAny_bind (wpAny_of_eq (self_some rfl (by simp) (by simp)) ?_)
  show wpAny _ _ (Bytes.bytesLike _ (.bytes set.toArray u) >>= _) _ _ s
  refine wpAny_bind ?_
  unfold Bytes.bytesLike
  refine wpAny_bind (wpAny_of_eq KBy.buffer_eq (wpAny_pure (wpAny_bind (wpAny_pure ?_))))
  refine wpAny_bind (wpAny_of_eq (a := b.toArray) rfl ?_)
  have hd : set.toArray.contains = set.contains := by funext x; simp
  rw [hd]
  show wpAny _ _ (if ((rstripB b set).length == b.toArray.size) = true then _ else (mkBytes (rstripB b set).toArray >>= _)) _ _ s
  by_cases hl : (rstripB b set).length = b.length
  · rw [if_pos (by simpa using hl)]
    rw [rstripB_same hl] at k
    exact wpAny_bind (wpAny_rule (wpAny_bind (same_bytes (wpAny_pure ⟨_, rfl, Po.here o k (.bytes _ _)⟩))))
  · rw [if_neg (by simpa using hl)]
    refine wpAny_bind (wpAny_mkBytes (wpAny_pure ⟨_, rfl, ?_⟩) ?_)
    · exact Po.tok o k (.bytes _ _)
    · rw [sizeLine_eq]
      exact Nat.le_trans (by simpa using rstripB_length_le b set) hz
end

/-! ### split -/
/-- the parts between the octets c -/
noncomputable def splitB (c : UInt8) : List UInt8 → List (List UInt8)
  | [] => [[]]
  | x :: r => if x = c then [] :: splitB c r else match splitB c r with
    | [] => [[x]]
    | p :: ps => (x :: p) :: ps
theorem splitB_ne (c : UInt8) : ∀ l, ∃ p ps, splitB c l = p :: ps
  | [] => ⟨_, _, rfl⟩
  | x :: r => by
    unfold splitB
    split
    · exact ⟨_, _, rfl⟩
    · split <;> exact ⟨_, _, rfl⟩
theorem splitB_length (c : UInt8) : ∀ l, ∀ p ∈ splitB c l, p.length ≤ l.length
  | [] => by simp [splitB]
  | x :: r => by
    intro p hp
    have ih := splitB_length c r
    obtain ⟨q, qs, e⟩ := splitB_ne c r
    unfold splitB at hp
    split at hp
    · rcases List.mem_cons.mp hp with rfl | hp
      · simp
      · have := ih p hp; simp; omega
    · rw [e] at hp ih
      rcases List.mem_cons.mp hp with rfl | hp
      · have := ih q (.head _); simp; omega
      · have := ih p (.tail _ hp); simp; omega
theorem splitB_count (c : UInt8) : ∀ l, (splitB c l).length ≤ l.length + 1
  | [] => by simp [splitB]
  | x :: r => by
    have ih := splitB_count c r
    obtain ⟨q, qs, e⟩ := splitB_ne c r
    unfold splitB
    split
    · simp; omega
    · rw [e] at ih ⊢; simp at ih ⊢; omega
noncomputable def occ (b : List UInt8) (c : UInt8) (acc : List Nat × Nat) (i : Nat) : List Nat × Nat := if i ≥ acc.2 && (b[i]? == some c) then (i :: acc.1, i + 1) else acc
theorem occ_run (b : List UInt8) (c : UInt8) : ∀ (k i : Nat) (acc : List Nat × Nat), acc.2 ≤ i →
    ((List.range' i k).foldl (occ b c) acc).1 = ((List.range' i k).filter fun j => b[j]? == some c).reverse ++ acc.1
  | 0, _, _, _ => rfl
  | k + 1, i, acc, h => by
    rw [List.range'_succ, List.foldl_cons, List.filter_cons]
    cases q : b[i]? == some c with
    | true =>
      have : occ b c acc i = (i :: acc.1, i + 1) := by simp [occ, q, h]
      rw [this, occ_run b c k (i + 1) _ (Nat.le_refl _)]
      simp
    | false =>
      have : occ b c acc i = acc := by simp [occ, q]
      rw [this, occ_run b c k (i + 1) _ (by omega)]
      simp
theorem occurrences_eq (b : List UInt8) (c : UInt8) : Bytes.occurrences b.toArray #[c] 0 b.toArray.size = (List.range' 0 b.length).filter fun j => b[j]? == some c := by
  unfold Bytes.occurrences
  have e : b.toArray.size + 1 - (0 + (#[c] : Array UInt8).size) = b.length := by rfl
  have f : (fun (acc : List Nat × Nat) (i : Nat) => if (decide (i ≥ acc.2) && b.toArray.extract i (i + (#[c] : Array UInt8).size) == #[c]) = true then (i :: acc.1, i + (#[c] : Array UInt8).size) else acc) = occ b c := by
    funext acc i
    rw [extract_one]
    rfl
  show (((List.range (b.toArray.size + 1 - (0 + (#[c] : Array UInt8).size))).map (· + 0)).foldl (fun (acc : List Nat × Nat) (i : Nat) => if (decide (i ≥ acc.2) && b.toArray.extract i (i + (#[c] : Array UInt8).size) == #[c]) = true then (i :: acc.1, i + (#[c] : Array UInt8).size) else acc) ([], 0)).1.reverse = _
  rw [e, f]
  have : (List.range b.length).map (· + 0) = List.range' 0 b.length := by simp [List.range_eq_range']
  rw [this, occ_run b c _ 0 _ (Nat.le_refl _)]
  simp
noncomputable def btw (b : List UInt8) (st : Array (Array UInt8) × Nat) (p : Nat) : Array (Array UInt8) × Nat := (st.1.push (b.toArray.extract st.2 p), p + 1)
noncomputable def finish (b : List UInt8) (st : Array (Array UInt8) × Nat) : List (Array UInt8) := (st.1.push (b.toArray.extract st.2 b.toArray.size)).toList
theorem btw_run (b : List UInt8) (c : UInt8) : ∀ (k i : Nat) (st : Array (Array UInt8) × Nat), i + k = b.length → st.2 ≤ i →
    finish b (((List.range' i k).filter fun j => b[j]? == some c).foldl (btw b) st) = st.1.toList ++ (match splitB c (b.drop i) with
      | [] => []
      | p :: ps => (((b.drop st.2).take (i - st.2)) ++ p).toArray :: ps.map List.toArray) := by
  intro k
  induction k with
  | zero =>
    intro i st h hl
    have e : b.drop i = [] := List.drop_of_length_le (by omega)
    rw [e]
    simp only [List.range'_zero, List.filter_nil, List.foldl_nil, finish, splitB, Array.toList_push, List.map_nil, List.append_nil]
    congr 2
    have h1 : i = b.length := h
    subst h1
    simp [List.extract_eq_take_drop]
  | succ k ih =>
    intro i st h hl
    have hi : i < b.length := by omega
    rw [List.range'_succ, List.filter_cons, List.drop_eq_getElem_cons hi]
    have hg : b[i]? = some b[i] := List.getElem?_eq_getElem hi
    by_cases q : b[i] = c
    · have q' : (b[i]? == some c) = true := by rw [hg, q]; simp
      simp only [q', if_true, List.foldl_cons]
      rw [ih (i + 1) _ ((Nat.add_right_comm i 1 k).trans h) (Nat.le_refl _)]
      obtain ⟨p, ps, e⟩ := splitB_ne c (b.drop (i + 1))
      simp only [splitB, q, if_true, e, btw, Array.toList_push, Nat.sub_self, List.take_zero, List.nil_append, List.append_nil, List.map_cons, List.append_assoc, List.singleton_append]
      congr 2
      simp [List.extract_eq_take_drop]
    · have q' : (b[i]? == some c) = false := by rw [hg]; simpa using q
      simp only [q', Bool.false_eq_true, if_false]
      rw [ih (i + 1) _ ((Nat.add_right_comm i 1 k).trans h) (Nat.le_succ_of_le hl)]
      obtain ⟨p, ps, e⟩ := splitB_ne c (b.drop (i + 1))
      simp only [splitB, q, if_false, e]
      congr 3
      have : i + 1 - st.2 = (i - st.2) + 1 := Nat.succ_sub hl
      rw [this, List.take_add_one]
      have e2 : (b.drop st.2)[i - st.2]? = some b[i] := by
        rw [List.getElem?_drop, Nat.add_sub_cancel' hl, hg]
      rw [e2]
      simp
theorem between_eq (b : List UInt8) (c : UInt8) : Bytes.between b.toArray (#[c] : Array UInt8).size ((List.range' 0 b.length).filter fun j => b[j]? == some c) = (splitB c b).map List.toArray := by
  have h := btw_run b c b.length 0 (#[], 0) (by omega) (Nat.le_refl _)
  obtain ⟨p, ps, e⟩ := splitB_ne c b
  rw [List.drop_zero, e] at h
  rw [e]
  have : Bytes.between b.toArray (#[c] : Array UInt8).size ((List.range' 0 b.length).filter fun j => b[j]? == some c) = finish b (((List.range' 0 b.length).filter fun j => b[j]? == some c).foldl (btw b) (#[], 0)) := rfl
  rw [this, h]
  simp
theorem no_sep (b : List UInt8) (c : UInt8) (h : ((List.range' 0 b.length).filter fun j => b[j]? == some c) = []) : splitB c b = [b] := by
  have h2 := between_eq b c
  rw [h] at h2
  have e : Bytes.between b.toArray (#[c] : Array UInt8).size [] = [b.toArray] := by
    show finish b (#[], 0) = _
    simp [finish]
  rw [e] at h2
  obtain ⟨p, ps, e⟩ := splitB_ne c b
  rw [e] at h2 ⊢
  simp at h2
  obtain ⟨h3, h4⟩ := h2
  rw [← h3, h4]

section
variable {W : GW} {n : Nat} {μ : Led} {K : D → Led → Prop}
theorem mapM_bytes {M : Model} {A : Around} {E : Value → Shared → Prop} : ∀ (xs : List (List UInt8)) (s : Shared) (Q : List Value → Shared → Prop), (∀ x ∈ xs, x.length ≤ 16777216) →
    (∀ vs tk, Reps s.heap vs (xs.map D.bytes) → Q vs { s with toks := tk }) → wpAny M A ((xs.map List.toArray).mapM (Bytes.Kind.new .bytes)) Q E s
  | [], s, Q, _, h => by
    rw [List.map_nil, List.mapM_nil]
    exact wpAny_pure (h [] s.toks .nil)
  | x :: xs, s, Q, hz, h => by
    rw [List.map_cons, List.mapM_cons]
    refine wpAny_bind (wpAny_mkBytes ?_ (by rw [sizeLine_eq]; simpa using hz x (.head _)))
    refine wpAny_bind (mapM_bytes xs _ _ (fun y hy => hz y (.tail _ hy)) fun vs tk r => wpAny_pure (h _ tk (.cons (.bytes _ _) r)))
theorem Wc.split {b : List UInt8} {c : UInt8} (hz : b.length < 16777216) (k : ∀ a, μ a = none → K (.ref a) (upd μ a ((splitB c b).map D.bytes))) : Wc W n (.builtin "bytes.split") [.bytes b, .bytes [c]] μ K := fun A h₀ s vs o r => by
  obtain ⟨v1, v2, rfl, r1, r2⟩ := reps2 r
  cases r1; cases r2
  refine wpAny_call_entry FBm.slot_split (typeIs_bytes _ _ _) FBm.entry_split ?_ (FBm.args_split _ _)
  rename_i t u
  show wpAny _ _ (Bytes.bytesLike _ (.bytes #[c] u) >>= _) _ _ s
  refine wpAny_bind ?_
  unfold Bytes.bytesLike
  refine wpAny_bind (wpAny_of_eq KBy.buffer_eq (wpAny_pure ?_))
  have e0 : (Bytes.occurrences b.toArray #[c] 0 b.toArray.size).take (b.toArray.size + 1) = (List.range' 0 b.length).filter fun j => b[j]? == some c := by
    rw [occurrences_eq]
    refine List.take_of_length_le ?_
    refine Nat.le_trans (List.length_filter_le _ _) ?_
    simp
  show wpAny _ _ (if ((Bytes.occurrences b.toArray #[c] 0 b.toArray.size).take (b.toArray.size + 1)).isEmpty = true then _ else ((Bytes.between b.toArray (#[c] : Array UInt8).size ((Bytes.occurrences b.toArray #[c] 0 b.toArray.size).take (b.toArray.size + 1))).mapM (Bytes.Kind.new .bytes) >>= _)) _ _ s
  rw [e0]
  have fin : ∀ (vs : List Value) (tk : Nat), Reps s.heap vs ((splitB c b).map D.bytes) → wpAny (model W.prog W.w) A.in1 (newList vs) (fun v s' => wpAny (model W.prog W.w) A.in1 (ret v) (fun fin s' => ∃ v, fin = Fin.done (Flow.ret v) ∧ Po h₀ K s v s') Nev s') Nev { s with toks := tk } := fun vs tk r => by
    refine wpAny_newList (wpAny_pure ⟨_, rfl, ?_⟩) ?_
    · exact Po.list (tk := tk) o (Kept.push _ _) (get_size _) ⟨_, _, _, Heap.get?_push_size _ rfl, rfl, rfl, rfl, by simpa using r.mono (Kept.push _ _).tup⟩ k
    · have := r.length
      have h2 := splitB_count c b
      rw [sizeLine_eq]
      simp at this
      omega
  cases hq : ((List.range' 0 b.length).filter fun j => b[j]? == some c) with
  | nil =>
    have e1 := no_sep b c hq
    refine wpAny_bind (wpAny_rule (wpAny_bind (same_bytes (wpAny_bind ?_))))
    exact fin [_] s.toks (by rw [e1]; exact .cons (.bytes _ _) .nil)
  | cons x xs =>
    rw [← hq, between_eq, if_neg (by rw [hq]; simp)]
    refine wpAny_bind (mapM_bytes _ _ _ (fun x hx => ?_) fun vs tk r => wpAny_bind (fin vs tk r))
    have := splitB_length c b x hx
    omega

/-! ### join, of octets with nothing between -/
theorem forIn_count {M : Model} {A : Around} {E : Value → Shared → Prop} {s : Shared} {β : Type} (f : Nat → β → Sem (ForInStep β)) (N : Nat) (I : Nat → β → Shared → Prop) (Q : β → Shared → Prop)
    (turn : ∀ i b s, i < N → I i b s → wpAny M A (f i b) (fun r s' => match r with | .yield b' => I (i + 1) b' s' | .done b' => Q b' s') E s)
    (fin : ∀ b s, I N b s → Q b s) (b : β) (h : I 0 b s) : wpAny M A (forIn [:N] b f) Q E s := by
  rw [Std.Legacy.Range.forIn_eq_forIn_range']
  have hsz : ([:N] : Std.Legacy.Range).size = N := by simp [Std.Legacy.Range.size]
  show wpAny M A (forIn (List.range' 0 ([:N] : Std.Legacy.Range).size 1) b f) Q E s
  rw [hsz]
  refine wpAny_forIn_list f (fun rest b s => ∃ i, rest = List.range' i (N - i) 1 ∧ i ≤ N ∧ I i b s) Q ?_ ?_ _ b ⟨0, rfl, Nat.zero_le _, h⟩
  · rintro x rest b s ⟨i, e, hi, hI⟩
    cases q : N - i with
    | zero => rw [q] at e; cases e
    | succ m =>
      rw [q, List.range'_succ] at e
      cases e
      refine wpAny_mono (turn _ b s (sub_pos' q) hI) (fun r s' hr => ?_) fun _ _ x => x
      cases r with
      | done b' => exact hr
      | yield b' => exact ⟨x + 1, by rw [sub_step q], sub_pos' q, hr⟩
  · rintro b s ⟨i, e, hi, hI⟩
    have : i = N := by
      cases q : N - i with
      | zero => exact sub_eq' hi q
      | succ m => rw [q, List.range'_succ] at e; cases e
    exact fin b s (this ▸ hI)
theorem joinLetGo_none {M : Model} {A : Around} {E : Value → Shared → Prop} {s : Shared} {Q : Unit → Shared → Prop} {keep : List Value} (h : Q () s) : ∀ taken : List (Value × Option Value), (∀ p ∈ taken, p.2 = none) → wpAny M A (Bytes.joinLetGo taken keep) Q E s
  | [], _ => wpAny_pure h
  | (x, w) :: rest, hn => by
    have : w = none := hn _ (.head _)
    subst this
    unfold Bytes.joinLetGo
    exact wpAny_bind (wpAny_letGo (joinLetGo_none h rest fun p hp => hn p (.tail _ hp)))
theorem joined_nil (parts : List (Array UInt8)) : Bytes.joined #[] parts = (parts.map Array.toList).flatten.toArray := by
  have key : ∀ (ps : List (Array UInt8)) (k : Nat) (acc : Array UInt8), (ps.zipIdx k).foldl (fun out (x : Array UInt8 × Nat) => (if x.2 > 0 then out ++ #[] else out) ++ x.1) acc = acc ++ (ps.map Array.toList).flatten.toArray := by
    intro ps
    induction ps with
    | nil => intro k acc; simp
    | cons p ps ih =>
      intro k acc
      rw [List.zipIdx_cons, List.foldl_cons, ih]
      apply Array.toList_inj.mp
      simp
  unfold Bytes.joined
  have := key parts 0 #[]
  rw [show parts.zipIdx = parts.zipIdx 0 from rfl]
  simpa using this
theorem take_quiet {id : String} {b : Array UInt8} {t : Tok} : Bytes.takeBufferQuiet? id (.bytes b t) 0 = pure (some (b, none)) := by
  unfold Bytes.takeBufferQuiet? Bytes.takeBuffer?
  rw [KBy.special_eq KBy.look_buffer, KBy.own_buffer]
  show ((do
    let r ← (Bytes.buffer? id (.bytes b t) ((0 : Int) == Bytes.fullReadOnly))
    pure (r.map (·, none)) : Sem (Option (Array UInt8 × Option Value))).attempt >>= _) = _
  have e : ((0 : Int) == Bytes.fullReadOnly) = false := by decide
  rw [e, KBy.buffer_eq]
  rfl
theorem getD_bytes {h : Heap} {vs : Array Value} {xs : List (List UInt8)} (rs : Reps h vs.toList (xs.map D.bytes)) {i : Nat} (hi : i < xs.length) : ∃ t, vs.getD i .none = .bytes xs[i].toArray t := by
  have g : (xs.map D.bytes)[i]? = some (.bytes xs[i]) := by simp [hi]
  obtain ⟨v, hv, rv⟩ := rs.get g
  cases rv with
  | bytes _ t =>
    refine ⟨t, ?_⟩
    have : vs[i]? = some (.bytes xs[i].toArray t) := by simpa using hv
    simp [this]
theorem size_sum : ∀ (ps : List (Array UInt8)) (k : Nat), ps.foldl (fun n p => n + p.size) k = k + (ps.map Array.toList).flatten.length
  | [], k => by simp
  | p :: ps, k => by rw [List.foldl_cons, size_sum ps]; simp; omega
theorem Wc.join {a : Addr} {xs : List (List UInt8)} (ha : μ a = some (xs.map D.bytes)) (hz : xs.flatten.length ≤ 16777216) (k : K (.bytes xs.flatten) μ) : Wc W n (.builtin "bytes.join") [.bytes [], .ref a] μ K := fun A h₀ s vs o r => by
  obtain ⟨v1, v2, rfl, r1, r2⟩ := reps2 r
  cases r1; cases r2
  refine wpAny_call_entry FBm.slot_join (typeIs_bytes _ _ _) FBm.entry_join ?_ (FBm.args_join _ _)
  rename_i t
  obtain ⟨ob, vs, m, ho, hc, hdn, hd, rs⟩ := id (o.led.lst _ _ ha)
  have hl : s.heap.IsList a vs := ⟨ob, ho, hc, m, hd⟩
  have hsz : vs.size = xs.length := by simpa using rs.length
  show wpAny _ _ (Bytes.joinItems (.ref a) >>= _) _ _ s
  refine wpAny_bind ?_
  unfold Bytes.joinItems
  refine wpAny_bind (wpAny_typeOf hl.typeIs ?_)
  rw [if_pos (by decide)]
  refine wpAny_pure ?_
  refine wpAny_bind (wpAny_seqItems ho hd ?_)
  have run : ∀ (body : Nat → Array (Array UInt8) × List (Value × Option Value) → Sem (ForInStep (Array (Array UInt8) × List (Value × Option Value)))) (rest : Array (Array UInt8) × List (Value × Option Value) → Sem Fin),
      (∀ i parts taken, i < xs.length → (taken.any fun x : Value × Option Value => x.1.onHeap) = false → wpAny (model W.prog W.w) A.in1 (body i (parts, taken)) (fun r s' => s' = s ∧ ∃ t, r = .yield (parts.push (xs.getD i []).toArray, taken ++ [(.bytes (xs.getD i []).toArray t, none)])) Nev s) →
      (∀ parts taken, (taken.all fun x : Value × Option Value => x.2.isNone) = true → parts.toList = xs.map List.toArray → wpAny (model W.prog W.w) A.in1 (rest (parts, taken)) (fun fin s' => ∃ v, fin = Fin.done (Flow.ret v) ∧ Po h₀ K s v s') Nev s) →
      wpAny (model W.prog W.w) A.in1 (forIn [:vs.size] (#[], []) body >>= rest) (fun fin s' => ∃ v, fin = Fin.done (Flow.ret v) ∧ Po h₀ K s v s') Nev s := by
    intro body rest h1 h2
    refine wpAny_bind (forIn_count body vs.size (fun i st s' => s' = s ∧ st.1.toList = (xs.take i).map List.toArray ∧ (st.2.any fun x : Value × Option Value => x.1.onHeap) = false ∧ (st.2.all fun x : Value × Option Value => x.2.isNone) = true) _ ?_ ?_ _ ⟨rfl, by simp, by simp, by simp⟩)
    · rintro i ⟨parts, taken⟩ s' hi ⟨rfl, hp, ht, hn⟩
      rw [hsz] at hi
      refine wpAny_mono (h1 i parts taken hi ht) (fun r s' hr => ?_) fun _ _ x => x
      obtain ⟨rfl, t, rfl⟩ := hr
      refine ⟨rfl, ?_, ?_, ?_⟩
      · have hp' : parts.toList = (xs.take i).map List.toArray := hp
        simp only [Array.toList_push, hp']
        rw [List.take_add_one, List.map_append]
        simp [hi]
      · simp only [List.any_append, ht]; rfl
      · simp only [List.all_append, hn]; rfl
    · rintro ⟨parts, taken⟩ s' ⟨rfl, hp, ht, hn⟩
      refine h2 parts taken hn ?_
      rw [hp, hsz, List.take_of_length_le (Nat.le_refl _)]
  obtain ⟨l⟩ := vs
  rcases l with _ | ⟨x, _ | ⟨y, l⟩⟩
  case' cons.nil =>
    have hx : xs.length = 1 := by simpa using hsz.symm
    obtain ⟨z, rfl⟩ := List.length_eq_one_iff.mp hx
    obtain ⟨v, e, rv⟩ := reps1 rs
    cases e
    cases rv
    show wpAny _ _ (typeOf (.bytes z.toArray _) >>= _) _ _ s
    refine wpAny_bind (wpAny_typeOf (typeIs_bytes _ _ _) ?_)
    rw [if_pos (by rfl)]
    refine wpAny_bind (wpAny_rule (wpAny_pure ⟨_, rfl, ?_⟩))
    simp at k
    exact Po.here o k (.bytes _ _)
  all_goals
    refine run _ _ (fun i parts taken hi ht => ?_) fun parts taken hn hp => ?_
    · first
      | exact absurd hi (by rw [← hsz]; exact Nat.not_lt_zero i)
      | (
        refine wpAny_bind (wpAny_seqItems ho hd ?_)
        obtain ⟨t', hg⟩ := getD_bytes rs hi
        have hxi : xs.getD i [] = xs[i] := by simp [hi]
        rw [hxi]
        refine (?_ : wpAny _ _ (if (Bytes.Kind.bytes == Bytes.Kind.bytearray || taken.any fun x => x.1.onHeap) = true then _ else (holding _ (Bytes.takeBufferQuiet? _ (Array.getD _ i .none) 0) >>= _)) _ _ s)
        rw [if_neg (by rw [ht]; decide)]
        simp only [hg]
        refine wpAny_bind (wpAny_holding (wpAny_of_eq take_quiet ?_))
        refine wpAny_bind (wpAny_seqItems ho hd ?_)
        refine wpAny_ite_split (fun hc => ?_) fun _ => wpAny_pure ⟨rfl, t', rfl⟩
        simp at hc)
    · refine wpAny_bind (wpAny_of_eq (a := #[]) rfl ?_)
      have hfl : (parts.toList.map Array.toList).flatten = xs.flatten := by rw [hp, List.map_map]; congr 1; exact (List.map_congr_left fun _ _ => rfl).trans (List.map_id _)
      have hts : Bytes.tooLong (parts.foldl (fun n p => n + p.size) ((#[] : Array UInt8).size * (parts.size - 1))) = false := by
        rw [← Array.foldl_toList, size_sum, hfl]
        refine KBy.tooLong_not ?_
        simpa using hz
      refine wpAny_ite_split (fun hc => absurd hc (by rw [hts]; decide)) fun _ => ?_
      refine wpAny_bind (wpAny_mkBytes ?_ ?_)
      · refine wpAny_bind (wpAny_holding (wpAny_point (wpAny_bind (joinLetGo_none ?_ taken fun p hp => ?_))))
        · refine wpAny_pure ⟨_, rfl, ?_⟩
          rw [joined_nil, hfl]
          exact Po.tok o k (.bytes _ _)
        · have := List.all_eq_true.mp hn p hp
          simpa using this
      · rw [joined_nil, hfl, sizeLine_eq]
        simpa using hz
end
end Mine

namespace Mine
open PySem PySem.Calls
/-! ## A function of the text is called -/
structure FnIn (W : GW) (a : Addr) (fd : FuncData) (body : List Stmt) : Prop where
  obj : ∀ h, W.Glb h → ∃ o, h.get? a = some o ∧ o.data = .func fd
  code : ∀ h, W.Glb h → h.CodeRec fd.code fd.qualname
  body : fd.body = .stmts body
  clo : fd.closure = []
  glob : fd.globals = mainGlobals
  bui : fd.builtins = builtinsNs

noncomputable def nodupS : List Str → Bool
  | [] => true
  | x :: xs => !xs.contains x && nodupS xs
theorem nodupS_of : ∀ {xs : List Str}, nodupS xs = true → xs.Nodup
  | [], _ => .nil
  | x :: xs, h => by
    simp only [nodupS, Bool.and_eq_true, Bool.not_eq_true', List.contains_eq_mem, decide_eq_false_iff_not] at h
    exact List.nodup_cons.mpr ⟨h.1, nodupS_of h.2⟩
/-- what is asked of a function's scope -/
noncomputable def okFn (sc : Scope) (ns gl : List Str) : Bool :=
  decide (sc.kind = .function) && !sc.isCoroutine && !sc.isGenerator && nodupS ns &&
  ns.all (fun x => !(x == ("__debug__" : Str)) && (decide (sc.names.lookup x = some .local) || decide (sc.names.lookup x = some .cell))) &&
  gl.all (fun x => !(x == ("__debug__" : Str)) && decide (sc.names.lookup x = some .globalImplicit))
structure OkFn (sc : Scope) (ns gl : List Str) : Prop where
  kind : sc.kind = .function
  co : sc.isCoroutine = false
  gen : sc.isGenerator = false
  nd : ns.Nodup
  ns : ∀ x ∈ ns, (x == ("__debug__" : Str)) = false ∧ (sc.names.lookup x = some .local ∨ sc.names.lookup x = some .cell)
  gl : ∀ x ∈ gl, (x == ("__debug__" : Str)) = false ∧ sc.names.lookup x = some .globalImplicit
theorem okFn_of {sc : Scope} {ns gl : List Str} (h : okFn sc ns gl = true) : OkFn sc ns gl := by
  simp only [okFn, Bool.and_eq_true, decide_eq_true_eq, Bool.not_eq_true', List.all_eq_true, Bool.or_eq_true] at h
  obtain ⟨⟨⟨⟨⟨h1, h2⟩, h3⟩, h4⟩, h5⟩, h6⟩ := h
  exact ⟨h1, h2, h3, nodupS_of h4, h5, h6⟩

noncomputable def retK (K : D → Led → Prop) : Flw → List (Option D) → Led → Prop
  | .ret d, _, μ => K d μ
  | .next, _, μ => K .none μ
  | _, _, _ => False

noncomputable def Gs (W : GW) (gs : List (Str × D)) : Prop := ∀ p ∈ gs, ∃ v, W.gval p.1 v ∧ ∀ h, W.Glb h → Rep h v p.2

theorem bindL_get {kd : Str → Option NameKind} : ∀ (bs : List (Str × Value)) (m : Str → Option Value) {x : Str}, x ∉ bs.map (·.1) → bindL kd bs m x = m x
  | [], _, _, _ => rfl
  | (n, v) :: r, m, x, h => by
    simp only [List.map_cons, List.mem_cons, not_or] at h
    unfold bindL
    rw [bindL_get r _ h.2]
    split
    · simp [h.1]
    · rfl
theorem bindL_mem {kd : Str → Option NameKind} {x : Str} {v : Value} (hk : kd x = some .local) (bs : List (Str × Value)) : ∀ (m : Str → Option Value), (bs.map (·.1)).Nodup → (x, v) ∈ bs → bindL kd bs m x = some v := by
  induction bs with
  | nil => intro m _ h; cases h
  | cons p r ih =>
    intro m nd h
    obtain ⟨n, w⟩ := p
    rw [List.map_cons, List.nodup_cons] at nd
    unfold bindL
    rcases List.mem_cons.mp h with e | h
    · cases e
      rw [bindL_get r _ nd.1, if_pos hk]
      simp
    · exact ih _ nd.2 h
theorem bindC_get {kd : Str → Option NameKind} : ∀ (bs : List (Str × Value)) (m : Str → Option Value) {x : Str}, x ∉ bs.map (·.1) → bindC kd bs m x = m x
  | [], _, _, _ => rfl
  | (n, v) :: r, m, x, h => by
    simp only [List.map_cons, List.mem_cons, not_or] at h
    unfold bindC
    rw [bindC_get r _ h.2]
    split
    · rfl
    · simp [h.1]
theorem bindC_mem {kd : Str → Option NameKind} {x : Str} {v : Value} (hk : kd x = some .cell) (bs : List (Str × Value)) : ∀ (m : Str → Option Value), (bs.map (·.1)).Nodup → (x, v) ∈ bs → bindC kd bs m x = some v := by
  induction bs with
  | nil => intro m _ h; cases h
  | cons p r ih =>
    intro m nd h
    obtain ⟨n, w⟩ := p
    rw [List.map_cons, List.nodup_cons] at nd
    unfold bindC
    rcases List.mem_cons.mp h with e | h
    · cases e
      rw [bindC_get r _ nd.1, if_neg (by rw [hk]; decide)]
      simp
    · exact ih _ nd.2 h

theorem has_none {x : Str} {d : D} (ls : List Str) : Has ls (List.replicate ls.length none) x d → False := by
  induction ls with
  | nil => intro h; cases h
  | cons y ls ih => intro h; cases h with | tail q => exact ih q
theorem has_zip {h : Heap} {ls : List Str} {x : Str} {d : D} (ps : List Str) : ∀ {ws : List Value} {ds : List D}, ps.length = ds.length → Reps h ws ds → Has (ps ++ ls) (ds.map some ++ List.replicate ls.length none) x d → ∃ v, (x, v) ∈ ps.zip ws ∧ Rep h v d := by
  induction ps with
  | nil =>
    intro ws ds hl _ q
    rw [List.eq_nil_of_length_eq_zero hl.symm] at q
    exact (has_none ls q).elim
  | cons p ps ih =>
    intro ws ds hl r q
    cases r with
    | nil => cases hl
    | cons r rs =>
      cases q with
      | head => exact ⟨_, List.mem_cons_self .., r⟩
      | tail q =>
        obtain ⟨v, h1, h2⟩ := ih (Nat.succ.inj hl) rs q
        exact ⟨v, List.mem_cons_of_mem _ h1, h2⟩
theorem zip_names : ∀ (ps : List Str) {ws : List Value}, ps.length = ws.length → (ps.zip ws).map (·.1) = ps
  | [], _, _ => by simp
  | p :: ps, [], h => by simp at h
  | p :: ps, w :: ws, h => by simp [zip_names ps (by simpa using h)]

theorem call_cells {prog : Program} {w : World} {A : Around} {s : Shared} {R : Result → Shared → Prop} {a : Addr} {o : Obj} {fd : FuncData} {body : List Stmt} {vals : List Value} {binds : List (Str × Value)}
    (hroom : A.depth < recursionLimit) (ho : s.heap.get? a = some o) (hdata : o.data = .func fd) (hlim : s.heap.NoLimit) (hcd : s.heap.CodeRec fd.code fd.qualname)
    (hbody : fd.body = .stmts body) (hbind : BindsTo s fd ⟨vals, []⟩ binds) (hclo : fd.closure = [])
    (hkind : ∀ x ∈ binds, fd.scope.names.lookup x.1 = some .local ∨ (fd.scope.names.lookup x.1 = some .cell ∧ ((cellsFrom (s.heap.objs.size + 1) fd.scope.names []).lookup x.1).isSome = true))
    (h : ∀ s₁, InCallC s (callEnvC fd s.heap.objs.size a).locals (bindL (callEnvC fd s.heap.objs.size a).kindOf binds fun _ => none) (callEnvC fd s.heap.objs.size a).cells
        (bindC (callEnvC fd s.heap.objs.size a).kindOf binds fun _ => none) s₁ →
      wpAny (model prog w) (A.deeper (callEnvC fd s.heap.objs.size a)) (execs body (callEnvC fd s.heap.objs.size a)) (fun f s' => R (.ok (.ret (match f with | .ret v => v | _ => .none))) s') Nev s₁)
    (hco : fd.scope.isCoroutine = false) (hgen : fd.scope.isGenerator = false) (hk : fd.scope.kind = .function) :
    codeAny (model prog w) A (.call (.ref a) ⟨vals, []⟩) R s := by
  refine codeAny_call_function hroom ho hdata hco hgen hbody hcd (hbind _ _ _ _ ?_)
  rw [hclo]
  refine wpAny_newFunctionEnv_cells hk hkind fun env he s' x => ?_
  subst he
  exact ⟨hlim.keeps x.toInCall.keep, codeAny_func (wpAny_mono (h s' x) (fun _ _ q => q) fun _ _ q => q.elim)⟩

theorem Wc.fn {W : GW} {n : Nat} {a : Addr} {fd : FuncData} {body : List Stmt} {ps ls : List Str} {gs : List (Str × D)} {args dargs : List D} {μ : Led} {K : D → Led → Prop}
    (FI : FnIn W a fd body) (hsc : OkFn fd.scope (ps ++ ls) (gs.map (·.1))) (hgs : Gs W gs) (hlen : ps.length = dargs.length)
    (hbind : ∀ s vs, W.Glb s.heap → Reps s.heap vs args → ∃ ws, BindsTo s fd ⟨vs, []⟩ (ps.zip ws) ∧ Reps s.heap ws dargs)
    (h : ∀ e, e.scope = fd.scope → Ws ⟨W, n, e, ps ++ ls, [], gs⟩ body (dargs.map some ++ List.replicate ls.length none) μ (retK K)) : Wc W (n + 1) (.ref a) args μ K := fun A h₀ s vs o r => by
  obtain ⟨ob, ho, hd⟩ := FI.obj _ o.glb
  obtain ⟨ws, hb, rw'⟩ := hbind s vs o.glb r
  have hlw : ps.length = ws.length := hlen.trans rw'.length.symm
  have hnd : ((ps.zip ws).map (·.1)).Nodup := by rw [zip_names ps hlw]; exact (List.nodup_append.mp hsc.nd).1
  have hmem : ∀ x ∈ ps.zip ws, x.1 ∈ ps ++ ls := fun x hx => List.mem_append_left _ (List.of_mem_zip hx).1
  refine wpAny_call (call_cells o.a.room ho hd (W.lim o.glb) (FI.code _ o.glb) FI.body hb FI.clo (fun x hx => ?_) (fun s₁ ic => ?_) hsc.co hsc.gen hsc.kind)
  · rcases (hsc.ns x.1 (hmem x hx)).2 with q | q
    · exact .inl q
    · obtain ⟨c, hc⟩ := cellsFrom_has fd.scope.names (s.heap.objs.size + 1) q
      exact .inr ⟨q, by rw [hc]; rfl⟩
  · obtain ⟨H, tk, rfl, kk⟩ := ic.done
    have kg : Kept (ground s μ) s.heap := ground_kept s μ
    have hbase := base_ground o.keep o.led
    have St1 : St (ground s μ) (callEnvC fd s.heap.objs.size a) (ps ++ ls) (dargs.map some ++ List.replicate ls.length none) μ { s with heap := H, toks := tk } := by
      refine ⟨⟨_, ic.toInCall.ns, fun x d q hk => ?_⟩, fun x c hx hk hc => ?_, kg.trans kk, ?_, ⟨fun b xs q => (o.led.lst b xs q).kept kk, fun b xs q => hide_none (by simp [q])⟩⟩
      · obtain ⟨v, hv, rv⟩ := has_zip ps hlen rw' q
        exact ⟨v, bindL_mem hk _ _ hnd hv, rv.mono (Kept.tup kk)⟩
      · refine ⟨_, ic.cell x c hc, fun d q => ?_, fun _ => ?_⟩
        · obtain ⟨v, hv, rv⟩ := has_zip ps hlen rw' q
          exact ⟨v, bindC_mem hk _ _ hnd hv, rv.mono (Kept.tup kk)⟩
        · have hlt : s.heap.objs.size < c := ic.above x c (mem_of_lookup hc)
          exact get_none_of kg (Heap.get?_none_of_le (Nat.le_of_lt hlt))
      · exact get_none_of kg (get_size _)
    have E1 : EnvOk W (callEnvC fd s.heap.objs.size a) (ps ++ ls) [] gs := by
      refine ⟨hsc.kind, FI.glob, FI.bui, fun x hx => ⟨(hsc.ns x hx).1, ?_⟩, hsc.nd, fun x hx y hy c k1 k2 h1 h2 => ?_, fun p hp => ?_, ?_, fun x _ _ _ c hc => ?_⟩
      · rcases (hsc.ns x hx).2 with q | q
        · exact .inl q
        · exact .inr ⟨q, cellsFrom_has fd.scope.names (s.heap.objs.size + 1) q⟩
      · exact name_of_addr ic.apart (mem_of_lookup h1) (mem_of_lookup h2)
      · obtain ⟨g1, g2⟩ := hsc.gl p.1 (List.mem_map_of_mem hp)
        exact ⟨g1, g2, hgs p hp⟩
      · show (fd.scope.kind == .module && _) = false
        rw [hsc.kind]; rfl
      · exact ic.above x c (mem_of_lookup hc)
    have ok : Ok ⟨W, n, callEnvC fd s.heap.objs.size a, ps ++ ls, [], gs⟩ (A.deeper (callEnvC fd s.heap.objs.size a)) (ground s μ) (dargs.map some ++ List.replicate ls.length none) μ { s with heap := H, toks := tk } :=
      ⟨o.a.deeper _, W.keeps o.g hbase, E1, St1⟩
    refine wpA (h _ rfl _ _ _ ok) fun f s₂ p => ?_
    refine p.el fun st2 g ds' μ' k fr S2 => ?_
    have fin : ∀ {v : Value} {d : D}, K d μ' → Rep s₂.heap v d → Po h₀ K s v s₂ := fun k r => ⟨(Stp.kept kk).trans st2, hbase.trans S2.keep, _, μ', k, r, ⟨S2.led.lst, fun b xs q => get_none_of hbase (S2.led.new b xs q)⟩⟩
    cases fr with
    | next => exact fin k (.val _)
    | brk => exact k.elim
    | cont => exact k.elim
    | ret r => exact fin k r
end Mine

namespace Mine
open PySem PySem.Calls
/-! ## The text's own functions -/
noncomputable def stAt (i : Nat) : Stmt := (PySem.Challenge.pw_pq0927_01.main.body)[i]?.getD (.Pass default)
noncomputable def bodyOf : Stmt → List Stmt
  | .FunctionDef _ _ b _ _ _ _ _ _ _ => b
  | _ => []
noncomputable def scopeOf : Stmt → Scope
  | .FunctionDef _ _ _ _ _ _ s _ _ _ => s
  | _ => default
noncomputable def bodyAt (i : Nat) : List Stmt := bodyOf (stAt i)
noncomputable def scopeAt (i : Nat) : Scope := scopeOf (stAt i)
structure FnAt (W : GW) (a : Addr) (i : Nat) (ps : List Str) : Prop where
  out : ∃ fd, FnIn W a fd (bodyAt i) ∧ fd.scope = scopeAt i ∧ ∀ s vs, W.Glb s.heap → vs.length = ps.length → BindsTo s fd ⟨vs, []⟩ (ps.zip vs)
theorem FnAt.wc {W : GW} {n : Nat} {a : Addr} {i : Nat} {ps : List Str} (ls ns : List Str) {gl : List Str} (gs : List (Str × D)) {args : List D} (ds : List (Option D)) {μ : Led} {K : D → Led → Prop} (x : FnAt W a i ps) (hsc : okFn (scopeAt i) ns gl = true) (hgs : Gs W gs) (hlen : ps.length = args.length)
    (h : ∀ e, e.scope = scopeAt i → Ws ⟨W, n, e, ns, [], gs⟩ (bodyAt i) ds μ (retK K)) (hns : ps ++ ls = ns := by rfl) (hgl : gs.map (·.1) = gl := by rfl) (hds : args.map some ++ List.replicate ls.length none = ds := by rfl) : Wc W (n + 1) (.ref a) args μ K := by
  obtain ⟨fd, h1, h2, h3⟩ := x.out
  subst hns hgl hds
  refine Wc.fn h1 (h2 ▸ okFn_of hsc) hgs hlen (fun s vs g r => ⟨vs, h3 s vs g (by rw [hlen, r.length]), r⟩) fun e he => h e (he.trans h2)

theorem ite_yes {X Y : Prop} (h : X) : if true = true then X else Y := by rw [if_pos rfl]; exact h
theorem ite_no {X Y : Prop} (h : Y) : if false = true then X else Y := by rw [if_neg (by decide)]; exact h
inductive Got : List (Str × D) → Str → D → Prop
  | head {x : Str} {d : D} {gs : List (Str × D)} : Got ((x, d) :: gs) x d
  | tail {x : Str} {d : D} {p : Str × D} {gs : List (Str × D)} (h : Got gs x d) : Got (p :: gs) x d
theorem Got.mem {gs : List (Str × D)} {x : Str} {d : D} (h : Got gs x d) : (x, d) ∈ gs := by
  induction h with
  | head => exact .head _
  | tail _ ih => exact .tail _ ih
theorem Wp.got {F : Fm} {ds : List (Option D)} {μ : Led} {K : D → Led → Prop} {x : Str} {p : Pos} {d : D} (hx : Got F.gs x d) (k : K d μ) : Wp F (.Name x p) ds μ K := Wp.glob hx.mem k
theorem put_of {ns : List Str} {ds ds' : List (Option D)} {x : Str} {d : D} {P : List (Option D) → Prop} (h : Put ns ds x d ds') (k : P ds') : ∃ ds', Put ns ds x d ds' ∧ P ds' := ⟨ds', h, k⟩
theorem ite_of {c : Prop} [Decidable c] {X Y : Prop} (h1 : c → X) (h2 : ¬ c → Y) : if c then X else Y := by
  split
  · exact h1 ‹_›
  · exact h2 ‹_›
theorem thenK_next {F : Fm} {rest : List Stmt} {K : Flw → List (Option D) → Led → Prop} {ds : List (Option D)} {μ : Led} (h : Ws F rest ds μ K) : thenK F rest K .next ds μ := h
theorem thenK_ret {F : Fm} {rest : List Stmt} {K : Flw → List (Option D) → Led → Prop} {ds : List (Option D)} {μ : Led} {d : D} (h : K (.ret d) ds μ) : thenK F rest K (.ret d) ds μ := h
theorem thenK_brk {F : Fm} {rest : List Stmt} {K : Flw → List (Option D) → Led → Prop} {ds : List (Option D)} {μ : Led} (h : K .brk ds μ) : thenK F rest K .brk ds μ := h
theorem retK_ret {K : D → Led → Prop} {ds : List (Option D)} {μ : Led} {d : D} (h : K d μ) : retK K (.ret d) ds μ := h
theorem turnK_next {J : List (Option D) → Led → Prop} {K : Flw → List (Option D) → Led → Prop} {ds : List (Option D)} {μ : Led} (h : J ds μ) : turnK J K .next ds μ := h
theorem turnK_brk {J : List (Option D) → Led → Prop} {K : Flw → List (Option D) → Led → Prop} {ds : List (Option D)} {μ : Led} (h : K .next ds μ) : turnK J K .brk ds μ := h
theorem turnK_ret {J : List (Option D) → Led → Prop} {K : Flw → List (Option D) → Led → Prop} {ds : List (Option D)} {μ : Led} {d : D} (h : K (.ret d) ds μ) : turnK J K (.ret d) ds μ := h
noncomputable def scEnv (sc : Scope) : Env := { scope := sc, locals := 0, globals := 0, cells := [], qual := ⟨#[]⟩, func := none, code := .none, frame := none, builtins := 0 }
theorem swapped_scope {ts : List Expr} {v : Expr} {env : Env} {sc : Scope} (h : env.scope = sc) : swappedStores ts v env = swappedStores ts v (scEnv sc) := by
  cases env; cases h; rfl
theorem swaps_scope {v : Expr} {t : Option Expr} {l : Nat} {env : Env} {sc : Scope} (h : env.scope = sc) : swapsWith v t l env = swapsWith v t l (scEnv sc) := by
  cases env; cases h; rfl
theorem bool_of {b : Bool} {P : Bool → Prop} (k : P b) : ∃ b', D.bool b = .bool b' ∧ P b' := ⟨b, rfl, k⟩
theorem int_of {i : Int} {P : Int → Prop} (k : P i) : ∃ i', D.int i = .int i' ∧ P i' := ⟨i, rfl, k⟩

theorem few {k : Nat} (h : k ≤ 1000) : k ≤ sizeLine := Nat.le_trans h (by decide)
theorem sub_led {W : GW} {n : Nat} {μ : Led} {K : D → Led → Prop} {a : Addr} {xs : List D} {i : Int} {d : D} (ha : μ a = some xs) (h0 : 0 ≤ i) (h1 : i < 2 ^ 63) (hd : xs[i.toNat]? = some d) (k : K d μ) : (∃ T, TyS W μ (.ref a) T) ∧ W2 W n getItem (.ref a) (.int i) μ K :=
  ⟨⟨_, .list (.led ha)⟩, W2.item_list ha h0 h1 hd k⟩
theorem sub_tup {W : GW} {n : Nat} {μ : Led} {K : D → Led → Prop} {xs : List D} {i : Int} {d : D} (h0 : 0 ≤ i) (h1 : i < 2 ^ 63) (hd : xs[i.toNat]? = some d) (k : K d μ) : (∃ T, TyS W μ (.tup xs) T) ∧ W2 W n getItem (.tup xs) (.int i) μ K :=
  ⟨⟨_, .tup _⟩, W2.item_tup h0 h1 hd k⟩
theorem sub_bytes {W : GW} {n : Nat} {μ : Led} {K : D → Led → Prop} {x : List UInt8} {i : Int} (h0 : 0 ≤ i) (h1 : i < x.length) (hz : x.length ≤ 1099511627776) (k : K (.int (x.getD i.toNat 0).toNat) μ) : (∃ T, TyS W μ (.bytes x) T) ∧ W2 W n getItem (.bytes x) (.int i) μ K :=
  ⟨⟨_, .bytes _⟩, W2.item_bytes h0 h1 hz k⟩
theorem set_led {W : GW} {n : Nat} {μ : Led} {K : Led → Prop} {a : Addr} {xs : List D} {i : Int} {d : D} (ha : μ a = some xs) {L : Nat} (hL : xs.length = L) (h0 : 0 ≤ i) (h1 : i < 2 ^ 63) (h2 : i < L) (k : K (upd μ a (xs.set i.toNat d))) : W3 W n setItem (.ref a) (.int i) d μ K :=
  W3.set ha (fitsIndex_of h0 h1) (seqIndex_of h0 (hL ▸ h2)) ((Int.toNat_lt h0).mpr (hL ▸ h2)) k
theorem call_bi {F : Fm} {p : Pos} {xs : List Expr} {ds : List (Option D)} {μ : Led} {K : D → Led → Prop} {id : String} (h : Wl F p xs ds μ (kCall F (.builtin id) K)) : kFn F p xs ds K (.val (.builtin id)) μ := ⟨_, rfl, .bi _, h⟩
theorem call_ty {F : Fm} {p : Pos} {xs : List Expr} {ds : List (Option D)} {μ : Led} {K : D → Led → Prop} {id : String} (h : Wl F p xs ds μ (kCall F (.type id) K)) : kFn F p xs ds K (.val (.type id)) μ := ⟨_, rfl, .ty _, h⟩


noncomputable def Ext (μ μ' : Led) : Prop := ∀ a ds, μ a = some ds → μ' a = some ds
theorem Ext.refl (μ : Led) : Ext μ μ := fun _ _ q => q
theorem Ext.trans {a b c : Led} (x : Ext a b) (y : Ext b c) : Ext a c := fun _ _ q => y _ _ (x _ _ q)
theorem Ext.upd {μ : Led} {a : Addr} {xs : List D} (h : μ a = none) : Ext μ (upd μ a xs) := fun _ _ q => upd_some q h
theorem Lis.ext {W : GW} {μ μ' : Led} {d : D} {xs : List D} (l : Lis W μ d xs) (x : Ext μ μ') : Lis W μ' d xs := by
  cases l with
  | led h => exact .led (x _ _ h)
  | glb h => exact .glb h

/-! ## comprehensions' scopes -/
noncomputable def okCp (sc : Scope) (cns cro gl fr : List Str) : Bool :=
  decide (sc.kind = .function) && sc.names.all (fun p => !decide (p.2 = .local) || decide (sc.names.lookup p.1 = some .local)) && sc.names.all (fun p => !decide (p.2 = .free) || fr.contains p.1) && nodupS cns &&
  cns.all (fun x => !(x == ("__debug__" : Str)) && ((!cro.contains x && (decide (sc.names.lookup x = some .local) || decide (sc.names.lookup x = some .cell))) ||
    (cro.contains x && sc.names.contains (x, .free) && decide (sc.names.lookup x = some .free) && !sc.names.contains (x, .cell)))) &&
  gl.all (fun x => !(x == ("__debug__" : Str)) && decide (sc.names.lookup x = some .globalImplicit)) && !(sc.kind == .module && sc.more.any fun (n, _) => n == ("interactive" : Str))
theorem okCp_of {F : Fm} {sc : Scope} {cns cro gl fr : List Str} {cgs : List (Str × D)} (h : okCp sc cns cro gl fr = true) (hgl : cgs.map (·.1) = gl) (hgs : Gs F.W cgs) (hfr : ∀ x ∈ fr, x ∈ F.ns ∧ F.e.kindOf x = some .cell) : CompOk F sc cns cro cgs := by
  subst hgl
  simp only [okCp, Bool.and_eq_true, decide_eq_true_eq, Bool.not_eq_true', List.all_eq_true, Bool.or_eq_true, decide_eq_false_iff_not, List.contains_eq_mem] at h
  obtain ⟨⟨⟨⟨⟨⟨h1, h2⟩, h3⟩, h4⟩, h5⟩, h6⟩, h7⟩ := h
  refine ⟨h1, fun x hx e => (h2 x hx).resolve_left fun q => q e, fun p hp e => hfr _ ((h3 p hp).resolve_left fun q => q e), nodupS_of h4, fun x hx => ⟨(h5 x hx).1, ?_⟩, fun p hp => ?_, h7⟩
  · rcases (h5 x hx).2 with q | q
    · exact .inl q
    · exact .inr ⟨q.1.1.1, q.1.1.2, q.1.2, q.2⟩
  · obtain ⟨g1, g2⟩ := h6 p.1 (List.mem_map_of_mem hp)
    exact ⟨g1, g2, hgs p hp⟩
theorem no_free {F : Fm} : ∀ x ∈ ([] : List Str), x ∈ F.ns ∧ F.e.kindOf x = some .cell := fun _ h => nomatch h

/-! ## methods, by name -/
noncomputable abbrev kApp (F : Fm) (p : Pos) (xs : List Expr) (ds : List (Option D)) (K : D → Led → Prop) : D → Led → Prop := fun d μ1 => ∃ a ys, d = .ref a ∧ μ1 a = some ys ∧ Wl F p xs ds μ1 (kCons2 (.ref a) (kCall F (.builtin "list.append") K))
noncomputable abbrev kMeth (F : Fm) (id : String) (p : Pos) (xs : List Expr) (ds : List (Option D)) (K : D → Led → Prop) : D → Led → Prop := fun d μ1 => ∃ b, d = .bytes b ∧ Wl F p xs ds μ1 (kCons2 (.bytes b) (kCall F (.builtin id) K))
theorem kMeth.go {F : Fm} {id : String} {p : Pos} {xs : List Expr} {ds : List (Option D)} {K : D → Led → Prop} {b : List UInt8} {μ : Led} (h : Wl F p xs ds μ (kCons2 (.bytes b) (kCall F (.builtin id) K))) : kMeth F id p xs ds K (.bytes b) μ := ⟨b, rfl, h⟩
theorem Wp.append {F : Fm} {ds : List (Option D)} {μ : Led} {K : D → Led → Prop} {o : Expr} {apos p : Pos} {xs : List Expr}
    (hb : ∀ e, attributeBase o "append" e (eval o e) = eval o e) (hl : (apos.endLine == p.line) = true) (hlen : decide (xs.length + ([] : List Keyword).length + (if ([] : List Keyword).isEmpty then 0 else 1) < 30) = true) (hp : ∀ e, (starEach xs e).any (·.1) = false)
    (h : Wp F o ds μ (kApp F p xs ds K)) : Wp F (.Call (.Attribute o "append" apos) xs [] p) ds μ K :=
  Wp.meth hb hl hlen hp (h.mono fun d μ1 q => by
    obtain ⟨a, ys, rfl, e, k⟩ := q
    exact ⟨"list", .list e, (fun _ z => nomatch z), meth_append, k⟩)
theorem Wp.bmeth {F : Fm} {ds : List (Option D)} {μ : Led} {K : D → Led → Prop} {o : Expr} {name : Str} {id : String} {apos p : Pos} {xs : List Expr} (hm : Meth "bytes" name id)
    (hb : ∀ e, attributeBase o name e (eval o e) = eval o e) (hl : (apos.endLine == p.line) = true) (hlen : decide (xs.length + ([] : List Keyword).length + (if ([] : List Keyword).isEmpty then 0 else 1) < 30) = true) (hp : ∀ e, (starEach xs e).any (·.1) = false)
    (h : Wp F o ds μ (kMeth F id p xs ds K)) : Wp F (.Call (.Attribute o name apos) xs [] p) ds μ K :=
  Wp.meth hb hl hlen hp (h.mono fun d μ1 q => by
    obtain ⟨b, rfl, k⟩ := q
    exact ⟨"bytes", .bytes b, (fun _ z => nomatch z), hm, k⟩)
theorem tup_go {ys : List D} {P : Prop} (h1 : Nat.ble ys.length 1000 = true) (h2 : ys.all flatD = true) (k : P) : (ys.length ≤ sizeLine ∧ ys.all flatD = true) ∧ P := ⟨⟨few (Nat.le_of_ble_eq_true h1), h2⟩, k⟩
theorem none_go {P : Prop} (k : P) : D.none = D.none ∧ P := ⟨rfl, k⟩
theorem str_of {y : Str} {P : Str → Prop} (k : P y) : ∃ y', D.str y = .str y' ∧ P y' := ⟨y, rfl, k⟩
theorem bytes_of {b : List UInt8} {P : List UInt8 → Prop} (k : P b) : ∃ b', D.bytes b = .bytes b' ∧ P b' := ⟨b, rfl, k⟩
theorem ref_of {F : Fm} {p : Pos} {xs : List Expr} {ds : List (Option D)} {K : D → Led → Prop} {a : Addr} {ys : List D} {μ : Led} (e : μ a = some ys) (k : Wl F p xs ds μ (kCons2 (.ref a) (kCall F (.builtin "list.append") K))) : kApp F p xs ds K (.ref a) μ := ⟨a, ys, rfl, e, k⟩
theorem flat_of {d : D} (h : ∀ xs, d ≠ .tup xs) : ∀ xs, d = .tup xs → xs.all flatD = true := fun xs q => absurd q (h xs)
theorem Wc.find_none {W : GW} {n : Nat} {μ : Led} {K : D → Led → Prop} {b : List UInt8} {c : UInt8} {lo hi : Int} (h0 : 0 ≤ lo) (h1 : lo ≤ hi) (h2 : hi ≤ b.length) (hq : findB b c lo.toNat hi.toNat = none) (k : K (.int (-1)) μ) :
    Wc W n (.builtin "bytes.find") [.bytes b, .bytes [c], .int lo, .int hi] μ K := Wc.find h0 h1 h2 (by rw [hq]; exact k)
theorem Wc.find_some {W : GW} {n : Nat} {μ : Led} {K : D → Led → Prop} {b : List UInt8} {c : UInt8} {lo hi : Int} {i : Nat} (h0 : 0 ≤ lo) (h1 : lo ≤ hi) (h2 : hi ≤ b.length) (hq : findB b c lo.toNat hi.toNat = some i) (k : K (.int i) μ) :
    Wc W n (.builtin "bytes.find") [.bytes b, .bytes [c], .int lo, .int hi] μ K := Wc.find h0 h1 h2 (by rw [hq]; exact k)
theorem notin_of {x : Str} {l : List Str} (h : l.contains x = false) : x ∉ l := by
  intro q
  rw [List.contains_eq_mem] at h
  exact absurd q (of_decide_eq_false h)

/-! ## what the text's top has laid -/
noncomputable def GD (W : GW) (x : Str) (d : D) : Prop := ∃ v, W.gval x v ∧ ∀ h, W.Glb h → Rep h v d
theorem Gs.nil {W : GW} : Gs W [] := fun _ h => nomatch h
theorem Gs.cons {W : GW} {x : Str} {d : D} {gs : List (Str × D)} (h : GD W x d) (t : Gs W gs) : Gs W ((x, d) :: gs) := fun p hp => by
  rcases List.mem_cons.mp hp with rfl | hp
  · exact h
  · exact t p hp
theorem FnAt.callee {W : GW} {a : Addr} {i : Nat} {ps : List Str} (x : FnAt W a i ps) : Callee W (.ref a) := by
  obtain ⟨fd, h, _⟩ := x.out
  exact .fn h.obj
theorem call_fn {F : Fm} {p : Pos} {xs : List Expr} {ds : List (Option D)} {μ : Led} {K : D → Led → Prop} {a : Addr} (c : Callee F.W (.ref a)) (h : Wl F p xs ds μ (kCall F (.ref a) K)) : kFn F p xs ds K (.ref a) μ := ⟨_, rfl, c, h⟩
/-- a call that leaves parameters to their defaults -/
structure FnD (W : GW) (a : Addr) (i : Nat) (ps : List Str) (k : Nat) (dflt : List D) : Prop where
  out : ∃ fd, FnIn W a fd (bodyAt i) ∧ fd.scope = scopeAt i ∧ ∀ s vs, W.Glb s.heap → vs.length = k → ∃ ws, BindsTo s fd ⟨vs, []⟩ (ps.zip (vs ++ ws)) ∧ Reps s.heap ws dflt
theorem FnD.wc {W : GW} {n : Nat} {a : Addr} {i k : Nat} {ps : List Str} {dflt : List D} (ls ns : List Str) {gl : List Str} (gs : List (Str × D)) {args : List D} (ds : List (Option D)) {μ : Led} {K : D → Led → Prop} (x : FnD W a i ps k dflt) (hsc : okFn (scopeAt i) ns gl = true) (hgs : Gs W gs) (hk : args.length = k) (hlen : ps.length = (args ++ dflt).length)
    (h : ∀ e, e.scope = scopeAt i → Ws ⟨W, n, e, ns, [], gs⟩ (bodyAt i) ds μ (retK K)) (hns : ps ++ ls = ns := by rfl) (hgl : gs.map (·.1) = gl := by rfl) (hds : (args ++ dflt).map some ++ List.replicate ls.length none = ds := by rfl) : Wc W (n + 1) (.ref a) args μ K := by
  obtain ⟨fd, h1, h2, h3⟩ := x.out
  subst hns hgl hds
  refine Wc.fn h1 (h2 ▸ okFn_of hsc) hgs hlen (fun s vs g r => ?_) fun e he => h e (he.trans h2)
  obtain ⟨ws, b, rw'⟩ := h3 s vs g (by rw [r.length, hk])
  exact ⟨vs ++ ws, b, r.append rw'⟩
theorem fr_of {F : Fm} {sc : Scope} {fr : List Str} (ns : List Str) (he : F.e.scope = sc) (h : fr.all (fun x => ns.contains x && decide (sc.names.lookup x = some .cell)) = true) (hns : F.ns = ns := by rfl) : ∀ x ∈ fr, x ∈ F.ns ∧ F.e.kindOf x = some .cell := fun x hx => by
  rw [hns]
  have := List.all_eq_true.mp h x hx
  simp only [Bool.and_eq_true, decide_eq_true_eq, List.contains_eq_mem] at this
  refine ⟨this.1, ?_⟩
  unfold Env.kindOf
  rw [he]
  exact this.2
/-! ### the octets of a text's signs -/
noncomputable def octs (y : Str) : List UInt8 := y.cps.toList.map fun c => c.toUInt8
theorem Wp.ords {F : Fm} {ds : List (Option D)} {μ : Led} {K : D → Led → Prop} {x : Expr} {scope : Scope} {p1 p2 p3 p4 p5 p6 p7 : Pos} (hs : ∀ env v, foldedSetIterable x env v = pure v)
    (hsc : okCp scope ["sign"] [] ["ord"] [] = true) (ho : GD F.W "ord" (.val (.builtin "ord"))) (hb : Got F.gs "bytes" (.val (.type "bytes")))
    (h : Wp F x ds μ fun d μ1 => ∃ y : Str, d = .str y ∧ y.cps.all (· < 128) = true ∧ y.cps.size ≤ 1000 ∧ ∀ μ2, Ext μ1 μ2 → K (.bytes (octs y)) μ2) :
    Wp F (.Call (.Name "bytes" p1) [.ListComp (.Call (.Name "ord" p2) [.Name "sign" p3] [] p4) [⟨.Name "sign" p5, x, [], 0⟩] scope p6] [] p7) ds μ K := by
  have co : CompOk F scope ["sign"] [] [("ord", .val (.builtin "ord"))] := okCp_of hsc rfl (Gs.cons ho Gs.nil) no_free
  refine Wp.call (fun _ => rfl) (fun _ => rfl) (Wp.got hb (call_ty (Wl.cons (fun _ => rfl) (Wp.comp ["sign"] [] [("ord", .val (.builtin "ord"))] [none] co (fun x d q => ?_) hs (Wit.str (h.mono fun d μ1 q => ?_))))))
  · cases q with
    | tail q => cases q
  · obtain ⟨y, rfl, ha, hz, k⟩ := q
    have hlen : (signs y).length = y.cps.size := by simp [signs]
    refine ⟨y, rfl, ha, fun i μ2 ys => μ2 = μ1 ∧ ys = (y.cps.toList.map fun c : Nat => D.int (c : Int)).take i, ⟨rfl, rfl⟩, fun _ _ _ _ => trivial, ?_, by rw [hlen]; exact few hz, ?_, ?_⟩
    · rintro i μ2 ys ⟨rfl, rfl⟩
      simp only [List.length_map, List.length_take]; exact Nat.min_le_left _ _
    · rintro e he i d μ2 ys hx ⟨rfl, rfl⟩
      unfold signs at hx
      rw [List.getElem?_map] at hx
      cases q : y.cps.toList[i]? with
      | none => rw [q] at hx; cases hx
      | some c =>
        rw [q] at hx
        cases hx
        refine Wa.name (fun _ h => nomatch h) .head (fun h => nomatch h) (Wq.nil (ite_yes ?_))
        refine Wp.call (fun _ => rfl) (fun _ => rfl) (Wp.got .head (call_bi (Wl.cons (fun _ => rfl) (Wp.name .head (Wl.nil (Wc.ord ⟨rfl, ?_⟩))))))
        rw [List.take_add_one, List.getElem?_map, q]
        rfl
    · rintro μ2 ys ⟨rfl, rfl⟩ ae hae
      rw [hlen, List.take_of_length_le (by simp)]
      refine Wl.nil ?_
      have e1 : (y.cps.toList.map fun c : Nat => D.int (c : Int)) = (y.cps.toList.map fun c : Nat => (c : Int)).map D.int := by simp
      rw [e1]
      have ha' : ∀ c ∈ y.cps.toList, c < 128 := fun c hc => by
        have := Array.all_eq_true_iff_forall_mem.mp ha c (by simpa using hc)
        simpa using this
      refine Wc.bytes (upd_same _ _ _) (fun n hn => ?_) (few (by simpa using hz)) ?_
      · obtain ⟨c, hc, rfl⟩ := List.mem_map.mp hn
        have := ha' c hc
        omega
      · have e2 : ((y.cps.toList.map fun c : Nat => (c : Int)).map fun n => n.toNat.toUInt8) = octs y := by
          rw [List.map_map]; rfl
        rw [e2]
        exact k _ (Ext.upd hae)

/-! ### small terms -/
@[elab_as_elim] theorem map_get {α : Type} {f : α → D} {l : List α} {i : Nat} {d : D} {P : D → Prop} (hx : (l.map f)[i]? = some d) (k : ∀ b, l[i]? = some b → P (f b)) : P d := by
  rw [List.getElem?_map] at hx
  cases q : l[i]? with
  | none => rw [q] at hx; cases hx
  | some b => rw [q] at hx; cases hx; exact k b q
theorem take_next {α : Type} {l : List α} {i : Nat} {b : α} (h : l[i]? = some b) : l.take (i + 1) = l.take i ++ [b] := by rw [List.take_add_one, h]; rfl
theorem tnl {r : Int} {n : Nat} (h0 : 0 ≤ r) (h1 : r < n) : r.toNat < n := (Int.toNat_lt h0).mpr h1
theorem lt63 {i : Int} {k : Nat} (h : i < k) (hk : Nat.ble k 1000000 = true) : i < 2 ^ 63 := by have := Nat.le_of_ble_eq_true hk; omega
theorem W2.add_sz {W : GW} {n : Nat} {μ : Led} {K : D → Led → Prop} {x y : List UInt8} {a b : Nat} (hx : x.length ≤ a) (hy : y.length ≤ b) (h : Nat.ble (a + b) 16777216 = true) (k : (x ++ y).length ≤ a + b → K (.bytes (x ++ y)) μ) : W2 W n (binaryOp .Add) (.bytes x) (.bytes y) μ K :=
  have e : (x ++ y).length ≤ a + b := by rw [List.length_append]; exact Nat.add_le_add hx hy
  W2.add_bytes (Nat.le_trans (Nat.add_le_add hx hy) (Nat.le_of_ble_eq_true h)) (k e)
theorem Wc.len_sz {W : GW} {n : Nat} {μ : Led} {K : D → Led → Prop} {x : List UInt8} {a : Nat} (hx : x.length ≤ a) (h : Nat.ble a 1000000 = true) (k : K (.int x.length) μ) : Wc W n (.builtin "len") [.bytes x] μ K :=
  Wc.len_bytes (Nat.le_trans hx (Nat.le_trans (Nat.le_of_ble_eq_true h) (by decide))) k
theorem app_sz {x y : List UInt8} {a b : Nat} (hx : x.length ≤ a) (hy : y.length ≤ b) : (x ++ y).length ≤ a + b := by rw [List.length_append]; exact Nat.add_le_add hx hy
theorem few_sz {a b : Nat} (hx : a ≤ b) (h : Nat.ble b 1000 = true) : a ≤ sizeLine := few (Nat.le_trans hx (Nat.le_of_ble_eq_true h))
theorem le_sz {a b c : Nat} (hx : a ≤ b) (h : Nat.ble b c = true) : a ≤ c := Nat.le_trans hx (Nat.le_of_ble_eq_true h)
/-- what a comprehension takes from around it -/
noncomputable def Cap (ns : List Str) (ds : List (Option D)) (cro cns : List Str) (cds : List (Option D)) : Prop := ∀ x d, Has cns cds x d → x ∈ cro ∧ Has ns ds x d
theorem Cap.nil {ns : List Str} {ds : List (Option D)} {cro : List Str} : Cap ns ds cro [] [] := fun _ _ h => nomatch h
theorem Cap.none {ns : List Str} {ds : List (Option D)} {cro cns : List Str} {cds : List (Option D)} {y : Str} (c : Cap ns ds cro cns cds) : Cap ns ds cro (y :: cns) (Option.none :: cds) := fun x d h => by
  cases h with | tail h => exact c x d h
theorem Cap.some {ns : List Str} {ds : List (Option D)} {cro cns : List Str} {cds : List (Option D)} {y : Str} {e : D} (hm : cro.contains y = true) (hh : Has ns ds y e) (c : Cap ns ds cro cns cds) : Cap ns ds cro (y :: cns) (Option.some e :: cds) := fun x d h => by
  cases h with
  | head => exact ⟨by simpa using hm, hh⟩
  | tail h => exact c x d h
/-- names that are not asked for again -/
inductive Fgt : List (Option D) → List (Option D) → Prop
  | nil : Fgt [] []
  | keep {o : Option D} {ds ds' : List (Option D)} (h : Fgt ds ds') : Fgt (o :: ds) (o :: ds')
  | drop {o : Option D} {ds ds' : List (Option D)} (h : Fgt ds ds') : Fgt (o :: ds) (none :: ds')
theorem Fgt.has {ds ds' : List (Option D)} (f : Fgt ds ds') : ∀ {ns : List Str} {x : Str} {d : D}, Has ns ds' x d → Has ns ds x d := by
  induction f with
  | nil => intro ns x d h; exact h
  | keep f ih =>
    intro ns x d h
    cases h with
    | head => exact .head
    | tail h => exact .tail (ih h)
  | drop f ih =>
    intro ns x d h
    cases h with
    | tail h => exact .tail (ih h)
theorem Ws.forget {F : Fm} {xs : List Stmt} {ds ds' : List (Option D)} {μ : Led} {K : Flw → List (Option D) → Led → Prop} (f : Fgt ds ds') (k : Ws F xs ds' μ K) : Ws F xs ds μ K := fun A h₀ s ok =>
  k A h₀ s (ok.to ⟨let ⟨m, hm, hv⟩ := ok.st.loc; ⟨m, hm, fun x d h => hv x d (f.has h)⟩, fun x c h1 h2 h3 => let ⟨w, a1, a2, a3⟩ := ok.st.cel x c h1 h2 h3; ⟨w, a1, fun d h => a2 d (f.has h), a3⟩, ok.st.keep, ok.st.Lnew, ok.st.led⟩)
end Mine

namespace Mine
open PySem PySem.Calls
set_option maxRecDepth 20000
local macro_rules | `(tactic| walk_at "put") => `(tactic| with_reducible (repeat (first | exact Put.head | apply Put.tail | exact Has.head | apply Has.tail | exact Got.head | apply Got.tail)))
local macro_rules | `(tactic| walk_at "p") => `(tactic| · walk_at "put")
local macro_rules | `(tactic| walk_at "rfl") => `(tactic| (intros; rfl))
local macro_rules | `(tactic| walk_at "i") => `(tactic| with_unfolding_all (intros; rfl))
local macro_rules | `(tactic| walk_at "c") => `(tactic| with_unfolding_all (intro h; cases h))
local macro_rules | `(tactic| walk_at "d") => `(tactic| with_unfolding_all decide +kernel)
local macro_rules | `(tactic| walk_at "a") => `(tactic| assumption)
local macro_rules | `(tactic| walk_at "n") => `(tactic| · with_unfolding_all (first | (intro _ h; cases h; done) | (intro _ h; cases h; rfl)))
local macro_rules | `(tactic| walk_at "o") => `(tactic| exact notin_of (by with_unfolding_all kernel_rfl))
local macro_rules | `(tactic| walk_at "my") => `(tactic| with_reducible first
  | refine thenK_next ?_
  | refine thenK_ret ?_
  | refine thenK_brk ?_
  | refine turnK_next ?_
  | refine turnK_ret ?_
  | refine turnK_brk ?_
  | refine retK_ret ?_
  | apply Wp.name; walk_at "p"
  | apply Wp.got; walk_at "p"
  | refine Wp.int ?_
  | refine Wp.str ?_
  | refine Wp.bytes ?_
  | refine Wp.bool ?_
  | refine Wp.ords ?_ ?_ ?_ ?_ ?_; walk_at "i"; walk_at "d"; walk_at "a"; walk_at "p"
  | refine kB.go ?_
  | refine kInt.go ?_
  | refine kMeth.go ?_
  | refine kSl.go ?_
  | refine str_of ?_
  | refine Wp.binop ?_
  | refine Wp.ifexp ?_
  | refine Wp.neg ?_
  | refine Wl.nil ?_
  | refine Wt.not ?_
  | refine Wt.and ?_
  | refine Wt.or ?_
  | refine Wt.or3 ?_
  | refine Ws.nil ?_
  | refine Ws.cons ?_
  | refine We.ret ?_
  | refine We.ifs ?_
  | refine We.brk ?_
  | refine W2.add_int ?_
  | refine W2.sub_int ?_
  | refine W2.lt_int ?_
  | refine W2.le_int ?_
  | refine W2.gt_int ?_
  | refine W2.ge_int ?_
  | refine W2.eq_int ?_
  | refine W2.ne_int ?_
  | refine ite_yes ?_
  | refine ite_no ?_
  | apply kAsg.go; walk_at "p"
  | refine Wp.append ?_ ?_ ?_ ?_ ?_; walk_at "i"; walk_at "i"; walk_at "i"; walk_at "i"
  | refine Wp.bmeth meth_find ?_ ?_ ?_ ?_ ?_; walk_at "i"; walk_at "i"; walk_at "i"; walk_at "i"
  | refine Wp.bmeth meth_split ?_ ?_ ?_ ?_ ?_; walk_at "i"; walk_at "i"; walk_at "i"; walk_at "i"
  | refine Wp.bmeth meth_rstrip ?_ ?_ ?_ ?_ ?_; walk_at "i"; walk_at "i"; walk_at "i"; walk_at "i"
  | refine Wp.bmeth meth_join ?_ ?_ ?_ ?_ ?_; walk_at "i"; walk_at "i"; walk_at "i"; walk_at "i"
  | refine We.expr ?_ ?_; walk_at "i"
  | refine Wp.tuple ?_
  | refine tup_go ?_ ?_ ?_; walk_at "i"; walk_at "i"
  | refine none_go ?_
  | refine bytes_of ?_
  | refine Wa.tuple ?_ ?_ ?_ ?_; walk_at "i"; walk_at "i"; walk_at "i"
  | refine Wz.cons ?_ ?_; walk_at "i"
  | refine Wz.nil ?_
  | apply Wa.name; walk_at "n"; walk_at "p"; walk_at "o"
  | refine Wq.nil ?_
  | refine Wq.one ?_
  | refine Wp.slice_bytes ?_
  | refine W2.eq_bytes ?_
  | refine W2.ne_bytes ?_
  | refine W2.ne_str ?_
  | refine W2.eq_str ?_
  | refine bool_of ?_
  | refine int_of ?_
  | refine call_bi ?_
  | refine call_ty ?_
  | refine Wpart.none ?_
  | refine Wpart.some ?_
  | refine Wp.cmp ?_ ?_; walk_at "i"
  | refine Wl.cons ?_ ?_; walk_at "i"
  | refine Wp.call ?_ ?_ ?_; walk_at "i"; walk_at "i"
  | refine Wp.sub ?_ ?_; walk_at "i"
  | refine Wt.cmp ?_ ?_; walk_at "i"
  | refine Wt.cmp2 ?_ ?_; walk_at "i"
  | refine We.assign ?_ ?_ ?_; walk_at "i"; walk_at "c"
  | refine We.setitem ?_ ?_; walk_at "i"
  | refine Wt.of ?_ ?_; walk_at "i")

/-! ### the tape -/
structure TapeAt (μ : Led) (t c : Addr) : Prop where
  out : ∃ (turn seed : Int) (ns : List Int), μ t = some [.ref c, .int turn, .int seed] ∧ μ c = some (ns.map D.int) ∧ 0 ≤ turn ∧ ns.length ≤ 40 ∧ (∀ n ∈ ns, (0 : Int) ≤ n) ∧ t ≠ c
noncomputable def Chg (t c : Addr) (μ μ' : Led) : Prop := ∀ a ds, a ≠ t → a ≠ c → μ a = some ds → μ' a = some ds

noncomputable abbrev drawPs : List Str := ["tape", "many"]
noncomputable abbrev drawLs : List Str := ["cells", "turn", "spot", "left"]
noncomputable abbrev drawNs : List Str := ["tape", "many", "cells", "turn", "spot", "left"]
theorem draw_scope : okFn (scopeAt 17) drawNs ["len"] = true := by decide +kernel
theorem draw_wc {W : GW} {n : Nat} {a t c : Addr} {many : Int} {μ : Led} {K : D → Led → Prop} (x : FnAt W a 17 drawPs) (hlen : GD W "len" (.val (.builtin "len")))
    (hm : 0 < many) (hm2 : many < 1000) (T : TapeAt μ t c) (k : ∀ r μ', 0 ≤ r → r < many → TapeAt μ' t c → Chg t c μ μ' → K (.int r) μ') : Wc W (n + 1) (.ref a) [.ref t, .int many] μ K := by
  refine x.wc drawLs drawNs [("len", .val (.builtin "len"))] [some (.ref t), some (.int many), none, none, none, none] draw_scope (.cons hlen .nil) rfl fun e he => ?_
  · obtain ⟨turn, seed, ns, h1, h2, h3, h4, h5, h6⟩ := T.out
    refine Ws.cons (We.swapped (names := ["cells", "turn"]) (fun _ => rfl) (fun env h => (swapped_scope (h.trans he)).trans (by kernel_rfl)) ?_)
    repeat walk_at "my"
    refine sub_led h1 (by decide) (by decide) rfl ?_
    repeat walk_at "my"
    refine sub_led h1 (by decide) (by decide) rfl ?_
    repeat walk_at "my"
    refine ⟨few (Nat.le_of_ble_eq_true rfl), rfl, ?_⟩
    show Wn _ [("turn" : Str), "cells"] [.int turn, .ref c] _ _ _
    refine Wn.cons (by walk_at "put") (fun h => nomatch h) (Wn.cons (by walk_at "put") (fun h => nomatch h) (Wn.nil ?_))
    repeat walk_at "my"
    refine set_led h1 (L := 3) rfl (by decide) (by decide) (by decide) ?_
    have g1 : (upd μ t ([D.ref c, D.int turn, D.int seed].set (1 : Int).toNat (D.int (turn + 1)))) t = some [D.ref c, D.int (turn + 1), D.int seed] := upd_same _ _ _
    have g2 : (upd μ t ([D.ref c, D.int turn, D.int seed].set (1 : Int).toNat (D.int (turn + 1)))) c = some (ns.map D.int) := (upd_ne _ _ (Ne.symm h6)).trans h2
    have g3 : Chg t c μ (upd μ t ([D.ref c, D.int turn, D.int seed].set (1 : Int).toNat (D.int (turn + 1)))) := fun a ds n1 _ q => (upd_ne _ _ n1).trans q
    generalize upd μ t ([D.ref c, D.int turn, D.int seed].set (1 : Int).toNat (D.int (turn + 1))) = μ1 at g1 g2 g3 ⊢
    have tail : ∀ (o1 o2 : Option D) (μ2 : Led), μ2 t = some [D.ref c, D.int (turn + 1), D.int seed] → μ2 c = some (ns.map D.int) → Chg t c μ μ2 →
        Ws ⟨W, n, e, drawNs, [], [("len", .val (.builtin "len"))]⟩ ((bodyAt 17).drop 3) [some (.ref t), some (.int many), some (.ref c), some (.int turn), o1, o2] μ2 (retK K) := by
      intro o1 o2 μ2 f1 f2 f3
      refine Ws.cons ?_
      repeat walk_at "my"
      refine sub_led f1 (by decide) (by decide) rfl ?_
      repeat walk_at "my"
      refine W2.mul_int (IntMulOk.of_right (by decide)) ?_
      repeat walk_at "my"
      refine W2.mul_int (IntMulOk.of_right (by decide)) ?_
      repeat walk_at "my"
      refine W2.mod_int (by decide) ?_
      repeat walk_at "my"
      generalize (seed * 48271 + turn * 89 + 7).fmod 2147483647 = sd
      refine set_led f1 (L := 3) rfl (by decide) (by decide) (by decide) ?_
      repeat walk_at "my"
      refine sub_led (upd_same _ _ _) (by decide) (by decide) rfl ?_
      repeat walk_at "my"
      refine W2.div_int (by decide) (by decide) ?_
      repeat walk_at "my"
      refine W2.mod_int (by omega) ?_
      repeat walk_at "my"
      refine k _ _ (Int.fmod_nonneg_of_pos _ hm) (Int.fmod_lt_of_pos _ hm) ⟨turn + 1, sd, ns, upd_same _ _ _, (upd_ne _ _ (Ne.symm h6)).trans f2, by omega, h4, h5, h6⟩ fun a ds n1 n2 q => (upd_ne _ _ n1).trans (f3 a ds n1 n2 q)
    repeat walk_at "my"
    refine Wp.list (Wl.nil ⟨few (Nat.le_of_ble_eq_true rfl), fun ae hae => ?_⟩)
    have g4 : upd μ1 ae [] t = some [D.ref c, D.int (turn + 1), D.int seed] := upd_some g1 hae
    have g5 : upd μ1 ae [] c = some (ns.map D.int) := upd_some g2 hae
    have g6 : Chg t c μ (upd μ1 ae []) := fun a ds n1 n2 q => upd_some (g3 a ds n1 n2 q) hae
    refine W2.ne_nil (.led g5) (.led (upd_same _ _ _)) ?_
    generalize upd μ1 ae [] = μ2 at g4 g5 g6 ⊢
    refine bool_of (ite_of (fun hne => ?_) fun _ => ?_)
    · have hne : 0 < ns.length := by
        cases ns with
        | nil => simp at hne
        | cons => simp
      have hl : ((ns.map D.int).length : Int) = ns.length := by simp
      repeat walk_at "my"
      refine Wc.len_list (.led g5) (by rw [List.length_map]; omega) ?_
      rw [hl]
      refine W2.mod_int (by omega) ?_
      repeat walk_at "my"
      have s0 : 0 ≤ turn.fmod ns.length := Int.fmod_nonneg_of_pos _ (by omega)
      have s1 : turn.fmod ns.length < ns.length := Int.fmod_lt_of_pos _ (by omega)
      generalize turn.fmod ns.length = sp at s0 s1 ⊢
      obtain ⟨sp, rfl⟩ := Int.eq_ofNat_of_zero_le s0
      have s2 : sp < ns.length := by omega
      refine sub_led g5 s0 (by omega) (d := .int ns[sp]) (by simp [s2]) ?_
      have hp : 0 ≤ ns[sp] := h5 _ (List.getElem_mem _)
      repeat walk_at "my"
      refine Wc.len_list (.led g5) (by rw [List.length_map]; omega) ?_
      repeat walk_at "my"
      refine ite_of (fun _ => ite_yes ?_) (fun _ => ?_)
      rotate_left
      repeat walk_at "my"
      refine ite_of (fun _ => ?_) (fun _ => ?_)
      rotate_left
      · refine Ws.nil (thenK_next (Ws.nil (thenK_next ?_)))
        exact tail _ _ _ g4 g5 g6
      all_goals
        repeat walk_at "my"
        refine W2.div_int (by omega) (Nat.lt_of_le_of_lt (Nat.log2_le_self _) (by omega)) ?_
        repeat walk_at "my"
        refine set_led g5 (L := ns.length) (by simp) s0 (by omega) s1 ?_
        repeat walk_at "my"
        refine W2.mod_int (by omega) ?_
        repeat walk_at "my"
        refine k _ _ (Int.fmod_nonneg_of_pos _ hm) (Int.fmod_lt_of_pos _ hm) ⟨turn + 1, seed, ns.set sp (ns[sp].fdiv many), (upd_ne _ _ h6).trans g4, ?_, by omega, by simpa using h4, fun m hm' => ?_, h6⟩ fun a ds n1 n2 q => (upd_ne _ _ n2).trans (g6 a ds n1 n2 q)
        · rw [upd_same, List.map_set]; rfl
        · rcases List.mem_or_eq_of_mem_set hm' with q | rfl
          · exact h5 _ q
          · exact Int.fdiv_nonneg hp (by omega)
    · refine Ws.nil (thenK_next ?_)
      exact tail _ _ _ g4 g5 g6

/-! ### line_spans -/
noncomputable abbrev lsNs : List Str := ["data", "at", "end", "behind", "found", "begin", "feed", "last"]
noncomputable abbrev lsGs : List (Str × D) := [("len", .val (.builtin "len")), ("min", .val (.builtin "min")), ("RETURN", .int 13)]
theorem ls_scope : okFn (scopeAt 3) lsNs ["len", "min", "RETURN"] = true := by decide +kernel
/-- the spans of the lines from begin on and before beh -/
noncomputable def spansF (data : List UInt8) (beh : Nat) : Nat → Nat → List (Nat × Nat × Nat)
  | 0, _ => []
  | f + 1, begin => if begin < beh then match findB data 10 begin beh with
    | none => [(begin, beh, beh)]
    | some feed => (begin, if feed > begin ∧ data.getD (feed - 1) 0 = 13 then feed - 1 else feed, feed + 1) :: spansF data beh f (feed + 1)
    else []
noncomputable def spD (t : Nat × Nat × Nat) : D := .tup [.int t.1, .int t.2.1, .int t.2.2]
theorem findB_some {b : List UInt8} {c : UInt8} {lo hi i : Nat} (h : findB b c lo hi = some i) : lo ≤ i ∧ i < hi ∧ b[i]? = some c := by
  unfold findB at h
  have h1 := List.find?_some h
  have h2 := List.mem_of_find?_eq_some h
  obtain ⟨j, hj, rfl⟩ := List.mem_map.mp h2
  rw [List.mem_range] at hj
  exact ⟨by omega, by omega, by simpa using h1⟩

theorem spansF_fuel (data : List UInt8) (beh : Nat) : ∀ (f g begin : Nat), beh - begin ≤ f → beh - begin ≤ g → spansF data beh f begin = spansF data beh g begin
  | 0, 0, _, _, _ => rfl
  | 0, g + 1, begin, h, _ => by unfold spansF; rw [if_neg (by omega)]
  | f + 1, 0, begin, _, h => by unfold spansF; rw [if_neg (by omega)]
  | f + 1, g + 1, begin, hf, hg => by
    unfold spansF
    split
    · cases hq : findB data 10 begin beh with
      | none => rfl
      | some feed =>
        have := findB_some hq
        simp only []
        rw [spansF_fuel data beh f g (feed + 1) (fuel_step this.1 this.2.1 hf) (fuel_step this.1 this.2.1 hg)]
    · rfl
noncomputable abbrev lsJ (μ : Led) (data : List UInt8) (at_ beh : Nat) (en : Int) (a : Addr) (tot : List (Nat × Nat × Nat)) (m : Nat) (ds : List (Option D)) (μ' : Led) : Prop := ∃ (begin : Nat) (acc : List (Nat × Nat × Nat)) (o1 o2 : Option D), m = beh - begin ∧ begin ≤ beh ∧
    ds = [some (.bytes data), some (.int at_), some (.int en), some (.int beh), some (.ref a), some (.int begin), o1, o2] ∧
    μ' = upd μ a (acc.map spD) ∧ acc.length ≤ begin ∧ acc ++ spansF data beh (beh - begin) begin = tot
theorem acc_fits {acc : List (Nat × Nat × Nat)} {b n k : Nat} (h : acc.length ≤ b) (h2 : b ≤ n) (h3 : n ≤ k) (hz : k ≤ 10000) : (acc.map spD).length ≤ sizeLine := by rw [List.length_map, sizeLine_eq]; omega
theorem lA1 {a b : Nat} (h : a < b) : ∃ f, b - a = f + 1 := ⟨b - a - 1, (Nat.sub_add_cancel (Nat.sub_pos_of_lt h)).symm⟩
theorem lA2 {feed begin beh f : Nat} (q1 : begin ≤ feed) (q2 : feed < beh) (hf : beh - begin = f + 1) : beh - (feed + 1) < f + 1 ∧ feed + 1 ≤ beh ∧ beh - (feed + 1) ≤ beh - (feed + 1) ∧ beh - (feed + 1) ≤ f :=
  have h1 : beh - (feed + 1) ≤ f := by
    have := Nat.sub_le_sub_left q1 beh
    rw [hf] at this
    rw [Nat.sub_succ]
    exact Nat.pred_le_pred this
  ⟨Nat.lt_succ_of_le h1, q2, Nat.le_refl _, h1⟩
theorem lA3 {feed begin n : Nat} (hc : begin < feed) (h : feed ≤ n) : (0 : Int) ≤ (feed : Int) - 1 ∧ (feed : Int) - 1 < (n : Int) ∧ ((feed : Int) - 1).toNat = feed - 1 ∧ ((feed : Int) - 1) = ((feed - 1 : Nat) : Int) := by
  cases feed with
  | zero => exact absurd hc (Nat.not_lt_zero _)
  | succ m =>
    have e : ((m + 1 : Nat) : Int) - 1 = (m : Int) := Int.add_sub_cancel (m : Int) 1
    rw [e]
    exact ⟨Int.natCast_nonneg _, Int.ofNat_lt.mpr h, rfl, rfl⟩
theorem ls_body {W : GW} {n : Nat} {e : Env} {data : List UInt8} {at_ beh : Nat} {en : Int} {μ : Led} {K : D → Led → Prop} (hab : at_ ≤ beh) (hbl : beh ≤ data.length) (hz : data.length ≤ 10000) (hen : (en < 0 ∧ beh = data.length) ∨ en = beh)
    (k : ∀ a μ', Ext μ μ' → μ a = none → μ' a = some ((spansF data beh (beh - at_) at_).map spD) → K (.ref a) μ') :
    Ws ⟨W, n, e, lsNs, [], lsGs⟩ (bodyAt 3) [some (.bytes data), some (.int at_), some (.int en), none, none, none, none, none] μ (retK K) := by
  refine Ws.cons (We.assign (fun _ => rfl) (fun h => nomatch h) (Wp.mono (K := fun d μ' => d = .int beh ∧ μ = μ') ?_ ?_))
  · repeat walk_at "my"
    refine ite_of (fun hc => ?_) fun hc => ?_
    · repeat walk_at "my"
      refine Wc.len_bytes (by omega) ⟨?_, rfl⟩
      simp at hc
      congr 1
      omega
    · repeat walk_at "my"
      refine Wc.len_bytes (by omega) ?_
      repeat walk_at "my"
      refine Wc.min ⟨?_, rfl⟩
      simp at hc
      congr 1
      split <;> omega
  rintro _ _ ⟨rfl, rfl⟩
  repeat walk_at "my"
  refine Wp.list (Wl.nil ⟨few (Nat.le_of_ble_eq_true rfl), fun a ha => ?_⟩)
  repeat walk_at "my"
  generalize htot : spansF data beh (beh - at_) at_ = tot at k
  have fin : ∀ acc', acc' = tot → K (.ref a) (upd μ a (acc'.map spD)) := fun acc' hq => k a _ (Ext.upd ha) ha (by rw [upd_same, hq])
  refine We.while_ (lsJ μ data at_ beh en a tot) ⟨at_, [], none, none, rfl, hab, rfl, rfl, Nat.zero_le _, by rw [List.nil_append]; exact htot⟩ ?_
  rintro m ds1 μ1 ⟨begin, acc, o1, o2, rfl, hb, rfl, rfl, hal, hacc⟩
  repeat walk_at "my"
  refine ite_of (fun hc => ?_) fun hc => ?_
  · have hlt : begin < beh := by simpa using hc
    obtain ⟨f, hf⟩ := lA1 hlt
    rw [hf] at hacc
    unfold spansF at hacc
    rw [if_pos hlt] at hacc
    repeat walk_at "my"
    cases hq : findB data 10 begin beh with
    | none =>
      rw [hq] at hacc
      refine Wc.find_none (Int.natCast_nonneg _) (Int.ofNat_le.mpr hb) (Int.ofNat_le.mpr hbl) hq ?_
      repeat walk_at "my"
      refine ite_of (fun _ => ?_) fun hc => absurd hc (by decide)
      repeat walk_at "my"
      refine ref_of (upd_same _ _ _) ?_
      repeat walk_at "my"
      refine Wc.append (upd_same _ _ _) ?_ ?_
      · exact acc_fits hal hb hbl hz
      · repeat walk_at "my"
        rw [upd_upd]
        have := fin (acc ++ [(begin, beh, beh)]) hacc
        rw [List.map_append] at this
        exact this
    | some feed =>
      rw [hq] at hacc
      obtain ⟨q1, q2, q3⟩ := findB_some hq
      have hA := lA2 q1 q2 hf
      refine Wc.find_some (Int.natCast_nonneg _) (Int.ofNat_le.mpr hb) (Int.ofNat_le.mpr hbl) hq ?_
      repeat walk_at "my"
      refine ite_of (fun hc => absurd hc (by simp)) fun _ => ?_
      refine Ws.nil (thenK_next ?_)
      generalize hla : (if feed > begin ∧ data.getD (feed - 1) 0 = 13 then feed - 1 else feed) = la at hacc
      refine Ws.cons (We.assign (fun _ => rfl) (fun h => nomatch h) (Wp.mono (K := fun d μ' => d = .int la ∧ upd μ a (acc.map spD) = μ') ?_ ?_))
      · repeat walk_at "my"
        refine ite_of (fun hc => ?_) fun hc => ?_
        · have hc : begin < feed := by simpa using hc
          repeat walk_at "my"
          have hB := lA3 hc (Nat.le_trans (Nat.le_of_lt q2) hbl)
          refine sub_bytes hB.1 hB.2.1 (le_sz hz rfl) ?_
          repeat walk_at "my"
          rw [hB.2.2.1]
          refine ite_of (fun hd => ?_) fun hd => ?_
          · have hd : data.getD (feed - 1) 0 = 13 := by
              have : ((data.getD (feed - 1) 0).toNat : Int) = 13 := by simpa using hd
              exact UInt8.toNat_inj.mp (Int.ofNat.inj this)
            rw [if_pos ⟨hc, hd⟩] at hla
            repeat walk_at "my"
            exact ⟨by rw [hB.2.2.2, hla], rfl⟩
          · have hd : ¬ data.getD (feed - 1) 0 = 13 := fun z => hd (by rw [z]; decide)
            rw [if_neg fun z => hd z.2] at hla
            repeat walk_at "my"
            exact ⟨by rw [hla], rfl⟩
        · have hc : ¬ begin < feed := by simpa using hc
          rw [if_neg fun z => hc z.1] at hla
          repeat walk_at "my"
          exact ⟨by rw [hla], rfl⟩
      · rintro _ _ ⟨rfl, rfl⟩
        repeat walk_at "my"
        refine ref_of (upd_same _ _ _) ?_
        repeat walk_at "my"
        refine Wc.append (upd_same _ _ _) ?_ ?_
        · exact acc_fits hal hb hbl hz
        · repeat walk_at "my"
          rw [upd_upd]
          refine ⟨beh - (feed + 1), hf ▸ hA.1, feed + 1, acc ++ [(begin, la, feed + 1)], _, _, rfl, hA.2.1, rfl, by rw [List.map_append]; rfl, by rw [List.length_append]; exact Nat.succ_le_succ (Nat.le_trans hal q1), ?_⟩
          rw [← hacc, List.append_assoc, spansF_fuel data beh (beh - (feed + 1)) f (feed + 1) hA.2.2.1 hA.2.2.2]
          simp only [hla]
          rfl
  · have hge : begin = beh := by have : ¬ begin < beh := (by simpa using hc); omega
    subst hge
    refine Ws.cons (We.ret ?_)
    repeat walk_at "my"
    refine fin acc ?_
    rw [← hacc, Nat.sub_self]
    simp [spansF]
noncomputable abbrev lsPs : List Str := ["data", "at", "end"]
noncomputable abbrev lsLs : List Str := ["behind", "found", "begin", "feed", "last"]
structure LibLs (W : GW) (a : Addr) : Prop where
  f : FnAt W a 3 lsPs
  fd : FnD W a 3 lsPs 1 [.int 0, .int (-1)]
  len : GD W "len" (.val (.builtin "len"))
  min : GD W "min" (.val (.builtin "min"))
  ret : GD W "RETURN" (.int 13)
theorem ls_wc1 {W : GW} {n : Nat} {a : Addr} (x : LibLs W a) {data : List UInt8} {μ : Led} {K : D → Led → Prop} (hz : data.length ≤ 10000)
    (k : ∀ a μ', Ext μ μ' → μ a = none → μ' a = some ((spansF data data.length data.length 0).map spD) → K (.ref a) μ') : Wc W (n + 1) (.ref a) [.bytes data] μ K := by
  refine x.fd.wc lsLs lsNs lsGs [some (.bytes data), some (.int 0), some (.int (-1)), none, none, none, none, none] ls_scope (.cons x.len (.cons x.min (.cons x.ret .nil))) rfl rfl fun e he => ?_
  exact ls_body (at_ := 0) (beh := data.length) (Nat.zero_le _) (Nat.le_refl _) hz (.inl ⟨by decide, rfl⟩) k
theorem ls_wc3 {W : GW} {n : Nat} {a : Addr} (x : LibLs W a) {data : List UInt8} {at_ beh : Nat} {μ : Led} {K : D → Led → Prop} (hab : at_ ≤ beh) (hbl : beh ≤ data.length) (hz : data.length ≤ 10000)
    (k : ∀ a μ', Ext μ μ' → μ a = none → μ' a = some ((spansF data beh (beh - at_) at_).map spD) → K (.ref a) μ') : Wc W (n + 1) (.ref a) [.bytes data, .int at_, .int beh] μ K := by
  refine x.f.wc lsLs lsNs lsGs [some (.bytes data), some (.int at_), some (.int beh), none, none, none, none, none] ls_scope (.cons x.len (.cons x.min (.cons x.ret .nil))) rfl fun e he => ?_
  exact ls_body hab hbl hz (.inr rfl) k

/-! ### begins_line -/
noncomputable def begins (octets mark : List UInt8) : Bool := (spansF octets octets.length octets.length 0).any fun t => cut octets (some (t.1 : Int)) (some ((t.1 : Int) + mark.length)) == mark
theorem bl_scope : okFn (scopeAt 6) ["octets", "mark"] ["line_spans"] = true := by decide +kernel
structure LibBl (W : GW) (aLs a : Addr) : Prop where
  ls : LibLs W aLs
  f : FnAt W a 6 ["octets", "mark"]
  lsd : GD W "line_spans" (.ref aLs)
theorem spans_len (data : List UInt8) (beh : Nat) : ∀ f b, (spansF data beh f b).length ≤ f
  | 0, _ => Nat.le_refl _
  | f + 1, b => by
    unfold spansF
    split
    · split
      · simp
      · have := spans_len data beh f (‹Nat› + 1); simp; omega
    · simp
theorem ones_any {α : Type} (l : List α) (p : α → Bool) : (!((l.filter p).map fun _ => D.int 1).isEmpty) = l.any p := by
  induction l with
  | nil => rfl
  | cons x l ih =>
    rw [List.filter_cons, List.any_cons]
    cases p x with
    | true => rfl
    | false => simpa using ih
theorem bl_wc {W : GW} {n : Nat} {aLs a : Addr} (x : LibBl W aLs a) {octets mark : List UInt8} {μ : Led} {K : D → Led → Prop} (hz : octets.length ≤ 10000) (hm : mark.length ≤ 1000)
    (k : ∀ μ', Ext μ μ' → K (.bool (begins octets mark)) μ') : Wc W (n + 2) (.ref a) [.bytes octets, .bytes mark] μ K := by
  refine x.f.wc [] ["octets", "mark"] [("line_spans", .ref aLs)] [some (.bytes octets), some (.bytes mark)] bl_scope (.cons x.lsd .nil) rfl fun e he => ?_
  refine Ws.cons ?_
  repeat walk_at "my"
  refine Wp.comp ["octets", "mark", "first", "last", "behind"] ["octets", "mark"] [("len", .val (.builtin "len"))] [some (.bytes octets), some (.bytes mark), none, none, none]
    (okCp_of (gl := ["len"]) (fr := ["octets", "mark"]) (by decide +kernel) rfl (.cons x.ls.len .nil) (fr_of ["octets", "mark"] he (by decide +kernel))) (Cap.some rfl .head (Cap.some rfl (.tail .head) (Cap.none (Cap.none (Cap.none Cap.nil))))) (fun _ _ => rfl) (Wit.list ?_)
  · repeat walk_at "my"
    refine call_fn x.ls.f.callee ?_
    repeat walk_at "my"
    refine ls_wc1 x.ls hz fun ae μ1 hext hae hl => ?_
    generalize hsp : spansF octets octets.length octets.length 0 = sp at hl
    have hsl : sp.length ≤ octets.length := hsp ▸ spans_len ..
    refine ⟨_, .led hl, fun i μ' ys => μ' = μ1 ∧ ys = ((sp.take i).filter fun t => cut octets (some (t.1 : Int)) (some ((t.1 : Int) + mark.length)) == mark).map fun _ => D.int 1, ⟨rfl, rfl⟩, ?_, ?_, ?_, ?_, ?_⟩
    · rintro i μ' ys ⟨rfl, -⟩; exact .led hl
    · rintro i μ' ys ⟨-, rfl⟩
      rw [List.length_map]
      exact Nat.le_trans (List.length_filter_le _ _) (by rw [List.length_take]; exact Nat.min_le_left _ _)
    · rw [List.length_map, sizeLine_eq]; omega
    · rintro e' he' i d μ' ys hx ⟨rfl, rfl⟩
      refine map_get hx fun t q => ?_
      · clear hx
        unfold spD
        repeat walk_at "my"
        refine ⟨le_sz hz rfl, ?_⟩
        repeat walk_at "my"
        refine Wc.len_sz hm rfl ?_
        repeat walk_at "my"
        have hnext := take_next q
        refine ite_of (fun hc => ?_) fun hc => ?_
        · repeat walk_at "my"
          refine ⟨rfl, ?_⟩
          rw [hnext, List.filter_append, List.map_append]
          simp only [List.filter_cons, hc]
          rfl
        · refine ⟨rfl, ?_⟩
          rw [hnext, List.filter_append, List.map_append]
          simp only [List.filter_cons, hc]
          simp
    · rintro μ' ys ⟨rfl, rfl⟩ ab hab
      rw [List.length_map, List.take_of_length_le (Nat.le_refl _)]
      refine Wp.list (Wl.nil ⟨few (Nat.le_of_ble_eq_true rfl), fun ac hac => ?_⟩)
      refine W2.ne_nil (.led (upd_some (upd_same _ _ _) hac)) (.led (upd_same _ _ _)) ?_
      rw [ones_any]
      show K _ _
      have hb : (sp.any fun t => cut octets (some (t.1 : Int)) (some ((t.1 : Int) + mark.length)) == mark) = begins octets mark := by rw [← hsp]; rfl
      rw [hb]
      exact k _ (hext.trans ((Ext.upd hab).trans (Ext.upd hac)))

/-! ### numbers as text -/
noncomputable def numS (j : Nat) : Str := Str.ofString (toString (j : Int))
noncomputable def bStr (j : Nat) : Str := Str.ofString "=_part" ++ numS j
noncomputable def bare (j : Nat) : List UInt8 := octs (bStr j)
noncomputable def markB (j : Nat) : List UInt8 := [45, 45] ++ bare j
theorem num_facts : ((List.range 20).all fun j => decide ((numS j).length ≠ 0) && decide ((numS j).length ≤ 2) && decide ((bStr j).length ≤ 8) && (bStr j).cps.all (· < 128) && decide ((bare j).length ≤ 8)) = true := by decide +kernel
structure NumOk (j : Nat) : Prop where
  n0 : (numS j).length ≠ 0
  n2 : (numS j).length ≤ 2
  b8 : (bStr j).length ≤ 8
  asc : (bStr j).cps.all (· < 128) = true
  bl : (bare j).length ≤ 8
theorem num_ok {j : Nat} (h : j < 20) : NumOk j := by
  have := List.all_eq_true.mp num_facts j (List.mem_range.mpr h)
  simp only [Bool.and_eq_true, decide_eq_true_eq] at this
  obtain ⟨⟨⟨⟨h1, h2⟩, h3⟩, h4⟩, h5⟩ := this
  exact ⟨h1, h2, h3, h4, h5⟩
theorem Wc.num {W : GW} {n : Nat} {μ : Led} {K : D → Led → Prop} {j : Nat} (h : j < 20) (k : K (.str (numS j)) μ) : Wc W n (.type "str") [.int j] μ K :=
  Wc.str (Nat.lt_of_le_of_lt (Nat.log2_le_self _) (by omega)) (few (Nat.le_trans (num_ok h).n2 (by decide))) k
theorem lead_len : (Str.ofString "=_part").length ≠ 0 := by decide +kernel
theorem W2.lead {W : GW} {n : Nat} {μ : Led} {K : D → Led → Prop} {j : Nat} (h : j < 20) (k : K (.str (bStr j)) μ) : W2 W n (binaryOp .Add) (.str (Str.ofString "=_part")) (.str (numS j)) μ K :=
  W2.add_str lead_len (num_ok h).n0 (few (Nat.le_trans (num_ok h).b8 (by decide))) k

/-! ### boundary_for -/
theorem bf_scope : okFn (scopeAt 7) ["bodies", "number", "boundary", "mark"] ["BOUNDARY_LEAD", "str", "bytes"] = true := by decide +kernel
structure LibBf (W : GW) (aLs aBl a : Addr) : Prop where
  bl : LibBl W aLs aBl
  f : FnAt W a 7 ["bodies"]
  lead : GD W "BOUNDARY_LEAD" (.str (Str.ofString "=_part"))
  str : GD W "str" (.val (.type "str"))
  bytes : GD W "bytes" (.val (.type "bytes"))
  ord : GD W "ord" (.val (.builtin "ord"))
  bld : GD W "begins_line" (.ref aBl)
noncomputable abbrev bfGs : List (Str × D) := [("BOUNDARY_LEAD", .str (Str.ofString "=_part")), ("str", .val (.type "str")), ("bytes", .val (.type "bytes"))]
theorem bf_wc {W : GW} {n : Nat} {aLs aBl a : Addr} (x : LibBf W aLs aBl a) {ab : Addr} {bodies : List (List UInt8)} {f : Nat} {μ : Led} {K : D → Led → Prop} (hz : ∀ b ∈ bodies, b.length ≤ 10000) (hbl : bodies.length ≤ 1000)
    (hμ : μ ab = some (bodies.map D.bytes)) (hf : f < 20) (hno : ∀ b ∈ bodies, begins b (markB f) = false) (hlt : ∀ j < f, bodies.any (begins · (markB j)) = true)
    (k : ∀ μ', Ext μ μ' → K (.str (bStr f)) μ') : Wc W (n + 3) (.ref a) [.ref ab] μ K := by
  refine x.f.wc ["number", "boundary", "mark"] ["bodies", "number", "boundary", "mark"] bfGs [some (.ref ab), none, none, none] bf_scope (.cons x.lead (.cons x.str (.cons x.bytes .nil))) rfl fun e he => ?_
  refine Ws.cons ?_
  repeat walk_at "my"
  refine We.while_ (fun m ds μ' => ∃ (j : Nat) (o1 o2 : Option D), m = f - j ∧ j ≤ f ∧ ds = [some (.ref ab), some (.int j), o1, o2] ∧ Ext μ μ') ⟨0, none, none, rfl, Nat.zero_le _, rfl, Ext.refl _⟩ ?_
  rintro m ds1 μ1 ⟨j, o1, o2, rfl, hj, rfl, hext⟩
  repeat walk_at "my"
  refine Wc.num (by omega) ?_
  repeat walk_at "my"
  refine W2.lead (by omega) ?_
  have hord := x.ord
  have nk := num_ok (j := j) (by omega)
  repeat walk_at "my"
  refine ⟨nk.asc, Nat.le_trans nk.b8 (by decide), fun μ2 hext2 => ?_⟩
  have hext := hext.trans hext2
  clear hext2
  refine W2.add_sz (Nat.le_refl 2) nk.bl rfl fun hml => ?_
  have hmk : [45, 45] ++ octs (bStr j) = markB j := rfl
  rw [hmk] at hml ⊢
  repeat walk_at "my"
  refine Wp.comp ["mark", "body"] ["mark"] [("begins_line", .ref aBl)] [some (.bytes (markB j)), none]
    (okCp_of (gl := ["begins_line"]) (fr := ["mark"]) (by decide +kernel) rfl (.cons x.bld .nil) (fr_of ["bodies", "number", "boundary", "mark"] he (by decide +kernel))) (Cap.some rfl (.tail (.tail (.tail .head))) (Cap.none Cap.nil)) (fun _ _ => rfl) (Wit.list ?_)
  · repeat walk_at "my"
    refine ⟨_, .led (hext _ _ hμ), fun i μ' ys => Ext μ μ' ∧ ys = ((bodies.take i).filter fun b => begins b (markB j)).map fun _ => D.int 1, ⟨hext, rfl⟩, ?_, ?_, ?_, ?_, ?_⟩
    · rintro i μ' ys ⟨hx, -⟩; exact .led (hx _ _ hμ)
    · rintro i μ' ys ⟨-, rfl⟩
      rw [List.length_map]
      exact Nat.le_trans (List.length_filter_le _ _) (by rw [List.length_take]; exact Nat.min_le_left _ _)
    · rw [List.length_map]; exact few hbl
    · rintro e' he' i d μ' ys hx ⟨hext3, rfl⟩
      refine map_get hx fun b q => ?_
      · clear hx
        have hmem : b ∈ bodies := List.mem_of_getElem? q
        repeat walk_at "my"
        refine call_fn x.bl.f.callee ?_
        repeat walk_at "my"
        refine bl_wc x.bl (hz b hmem) (le_sz hml rfl) fun μ4 hext4 => ?_
        have hext5 := hext3.trans hext4
        have hnext := take_next q
        refine bool_of (ite_of (fun hc => ?_) fun hc => ?_)
        · repeat walk_at "my"
          refine ⟨hext5, ?_⟩
          rw [hnext, List.filter_append, List.map_append]
          simp only [List.filter_cons, hc]
          rfl
        · refine ⟨hext5, ?_⟩
          rw [hnext, List.filter_append, List.map_append]
          simp only [List.filter_cons, hc]
          simp
    · rintro μ' ys ⟨hext3, rfl⟩ ac hac
      rw [List.length_map, List.take_of_length_le (Nat.le_refl _)]
      refine Wp.list (Wl.nil ⟨few (Nat.le_of_ble_eq_true rfl), fun ad had => ?_⟩)
      refine W2.eq_nil (.led (upd_some (upd_same _ _ _) had)) (.led (upd_same _ _ _)) ?_
      have hany := ones_any bodies (fun b => begins b (markB j))
      have hext5 := hext3.trans ((Ext.upd hac).trans (Ext.upd (xs := []) had))
      refine bool_of (ite_of (fun hc => ?_) fun hc => ?_)
      · rw [hc] at hany
        have hj' : j = f := by
          rcases Nat.lt_or_ge j f with h | h
          · rw [hlt j h] at hany; cases hany
          · omega
        subst hj'
        repeat walk_at "my"
        exact k _ hext5
      · have hc' : (((bodies.filter fun b => begins b (markB j)).map fun _ => D.int 1).isEmpty) = false := by simpa using hc
        rw [hc'] at hany
        have hj' : j ≠ f := by
          rintro rfl
          obtain ⟨b, hb, hb'⟩ := List.any_eq_true.mp hany.symm
          rw [hno b hb] at hb'
          cases hb'
        repeat walk_at "my"
        exact ⟨f - (j + 1), step_lt (by assumption) hj', j + 1, _, _, rfl, Nat.lt_of_le_of_ne (by assumption) hj', rfl, hext5⟩

/-! ### joined_bodies -/
noncomputable def pieceB (m b : List UInt8) : List UInt8 := m ++ [13, 10] ++ b ++ [13, 10]
noncomputable def joinedB (bodies : List (List UInt8)) (m : List UInt8) : List UInt8 := (bodies.map (pieceB m)).flatten ++ m ++ [45, 45] ++ [13, 10]
theorem jb_scope : okFn (scopeAt 8) ["bodies", "boundary", "mark"] ["bytes", "CRLF"] = true := by decide +kernel
structure LibJb (W : GW) (a : Addr) : Prop where
  f : FnAt W a 8 ["bodies", "boundary"]
  bytes : GD W "bytes" (.val (.type "bytes"))
  ord : GD W "ord" (.val (.builtin "ord"))
  crlf : GD W "CRLF" (.bytes [13, 10])
theorem flatten_mem_le {xs : List (List UInt8)} {x : List UInt8} (h : x ∈ xs) : x.length ≤ xs.flatten.length := by
  induction xs with
  | nil => cases h
  | cons y ys ih =>
    rw [List.flatten_cons, List.length_append]
    rcases List.mem_cons.mp h with rfl | h
    · omega
    · have := ih h; omega
theorem jb_wc {W : GW} {n : Nat} {a : Addr} (x : LibJb W a) {d : D} {bodies : List (List UInt8)} {j : Nat} {μ : Led} {K : D → Led → Prop} (hj : j < 20) (hbl : bodies.length ≤ 1000)
    (hμ : ∀ μ', Ext μ μ' → Lis W μ' d (bodies.map D.bytes)) (hz : (joinedB bodies (markB j)).length ≤ 10000) (k : ∀ μ', Ext μ μ' → K (.bytes (joinedB bodies (markB j))) μ') : Wc W (n + 1) (.ref a) [d, .str (bStr j)] μ K := by
  refine x.f.wc ["mark"] ["bodies", "boundary", "mark"] [("bytes", .val (.type "bytes")), ("CRLF", .bytes [13, 10])] [some d, some (.str (bStr j)), none] jb_scope (.cons x.bytes (.cons x.crlf .nil)) rfl fun e he => ?_
  have hord := x.ord
  have nk := num_ok (j := j) (by omega)
  refine Ws.cons ?_
  repeat walk_at "my"
  refine ⟨nk.asc, Nat.le_trans nk.b8 (by decide), fun μ1 hext => ?_⟩
  refine W2.add_sz (Nat.le_refl 2) nk.bl rfl fun hml => ?_
  have hmk : [45, 45] ++ octs (bStr j) = markB j := rfl
  rw [hmk] at hml ⊢
  have hfl : (bodies.map (pieceB (markB j))).flatten.length ≤ 10000 := by unfold joinedB at hz; simp only [List.length_append, Nat.add_assoc] at hz; exact Nat.le_trans (Nat.le_add_right _ _) hz
  unfold joinedB at hz k
  simp only [List.length_append] at hz
  repeat walk_at "my"
  refine Wp.comp ["mark", "body"] ["mark"] [("CRLF", .bytes [13, 10])] [some (.bytes (markB j)), none]
    (okCp_of (gl := ["CRLF"]) (fr := ["mark"]) (by decide +kernel) rfl (.cons x.crlf .nil) (fr_of ["bodies", "boundary", "mark"] he (by decide +kernel))) (Cap.some rfl (.tail (.tail .head)) (Cap.none Cap.nil)) (fun _ _ => rfl) (Wit.list ?_)
  · repeat walk_at "my"
    refine ⟨_, hμ _ hext, fun i μ' ys => μ' = μ1 ∧ ys = ((bodies.take i).map (pieceB (markB j))).map D.bytes, ⟨rfl, rfl⟩, ?_, ?_, ?_, ?_, ?_⟩
    · rintro i μ' ys ⟨rfl, -⟩; exact hμ _ hext
    · rintro i μ' ys ⟨-, rfl⟩
      simp only [List.length_map, List.length_take]; exact Nat.min_le_left _ _
    · rw [List.length_map]; exact few hbl
    · rintro e' he' i d μ' ys hx ⟨rfl, rfl⟩
      refine map_get hx fun b q => ?_
      · clear hx
        have hmem : b ∈ bodies := List.mem_of_getElem? q
        have hbz : b.length ≤ 10000 := Nat.le_trans (by unfold pieceB; rw [List.length_append, List.length_append (bs := b)]; exact Nat.le_trans (Nat.le_add_left _ _) (Nat.le_add_right _ _)) (Nat.le_trans (flatten_mem_le (List.mem_map_of_mem (f := pieceB (markB j)) hmem)) hfl)
        have hnext := take_next q
        repeat walk_at "my"
        refine W2.add_sz hml (Nat.le_refl 2) rfl fun z1 => ?_
        repeat walk_at "my"
        refine W2.add_sz z1 hbz rfl fun z2 => ?_
        repeat walk_at "my"
        refine W2.add_sz z2 (Nat.le_refl 2) rfl fun _ => ⟨rfl, ?_⟩
        rw [hnext, List.map_append, List.map_append]
        rfl
    · rintro μ' ys ⟨rfl, rfl⟩ ac hac
      rw [List.length_map, List.take_of_length_le (Nat.le_refl _)]
      refine Wl.nil (Wc.join (upd_same _ _ _) (le_sz hfl rfl) ?_)
      repeat walk_at "my"
      refine W2.add_sz hfl hml rfl fun x1 => ?_
      repeat walk_at "my"
      refine W2.add_sz x1 (Nat.le_refl 2) rfl fun x2 => ?_
      repeat walk_at "my"
      refine W2.add_sz x2 (Nat.le_refl 2) rfl fun _ => ?_
      repeat walk_at "my"
      exact k _ (hext.trans (Ext.upd hac))

/-! ### boundary_way -/
noncomputable def wayStr : Nat → Str
  | 0 => Str.ofString ""
  | 1 => Str.ofString "next"
  | _ => Str.ofString "last"
noncomputable def wayK (line bnd : List UInt8) : Nat :=
  if cut line none (some ((2 + bnd.length : Nat) : Int)) = [45, 45] ++ bnd then
    if rstripB (cut line (some ((2 + bnd.length : Nat) : Int)) none) [32, 9] = [] then 1 else if rstripB (cut line (some ((2 + bnd.length : Nat) : Int)) none) [32, 9] = [45, 45] then 2 else 0
  else 0
theorem bw_scope : okFn (scopeAt 11) ["line", "boundary", "mark", "rest"] ["len", "BLANKS"] = true := by decide +kernel
structure LibBw (W : GW) (a : Addr) : Prop where
  f : FnAt W a 11 ["line", "boundary"]
  len : GD W "len" (.val (.builtin "len"))
  bl : GD W "BLANKS" (.bytes [32, 9])
theorem bw_wc {W : GW} {n : Nat} {a : Addr} (x : LibBw W a) {line bnd : List UInt8} {μ : Led} {K : D → Led → Prop} (hz : line.length ≤ 10000) (hb : bnd.length ≤ 1000) (k : K (.str (wayStr (wayK line bnd))) μ) : Wc W (n + 1) (.ref a) [.bytes line, .bytes bnd] μ K := by
  refine x.f.wc ["mark", "rest"] ["line", "boundary", "mark", "rest"] [("len", .val (.builtin "len")), ("BLANKS", .bytes [32, 9])] [some (.bytes line), some (.bytes bnd), none, none] bw_scope (.cons x.len (.cons x.bl .nil)) rfl fun e he => ?_
  unfold wayK at k
  refine Ws.cons ?_
  repeat walk_at "my"
  refine W2.add_sz (Nat.le_refl 2) hb rfl fun hmz => ?_
  have hml : ([45, 45] ++ bnd).length = 2 + bnd.length := by simp; omega
  generalize hm : [45, 45] ++ bnd = m at k hml hmz ⊢
  rw [← hml] at k
  repeat walk_at "my"
  refine ⟨le_sz hz rfl, ?_⟩
  repeat walk_at "my"
  refine Wc.len_sz hmz rfl ?_
  repeat walk_at "my"
  refine ite_of (fun hc => ?_) fun hc => ?_
  · have hc : ¬ cut line none (some (m.length : Int)) = m := by simpa using hc
    rw [if_neg hc] at k
    repeat walk_at "my"
    exact k
  · have hc : cut line none (some (m.length : Int)) = m := by simpa using hc
    rw [if_pos hc] at k
    repeat walk_at "my"
    refine ⟨le_sz hz rfl, ?_⟩
    repeat walk_at "my"
    refine Wc.len_sz hmz rfl ?_
    repeat walk_at "my"
    refine Wc.rstrip (Nat.le_trans (cut_length_le _ _ _) (le_sz hz rfl)) ?_
    generalize rstripB (cut line (some (m.length : Int)) none) [32, 9] = r at k ⊢
    repeat walk_at "my"
    refine ite_of (fun hd => ?_) fun hd => ?_
    · have hd : r = [] := by simpa using hd
      rw [if_pos hd] at k
      repeat walk_at "my"
      exact k
    · have hd : ¬ r = [] := by simpa using hd
      rw [if_neg hd] at k
      repeat walk_at "my"
      refine ite_of (fun hd => ?_) fun hd => ?_
      · have hd : r = [45, 45] := by simpa using hd
        rw [if_pos hd] at k
        repeat walk_at "my"
        exact k
      · have hd : ¬ r = [45, 45] := by simpa using hd
        rw [if_neg hd] at k
        repeat walk_at "my"
        exact k

/-! ### part_spans -/
noncomputable def begI : Option Nat → Int
  | none => -1
  | some b => (b : Int)
noncomputable def endP : Option Nat → Nat → List (Int × Int)
  | none, _ => []
  | some b, bf => [((b : Int), ((max b bf : Nat) : Int))]
noncomputable def psR (data bnd : List UInt8) (en : Nat) : List (Nat × Nat × Nat) → Option Nat → Nat → List (Int × Int)
  | [], none, _ => []
  | [], some b, _ => [((b : Int), (en : Int))]
  | (f, l, h) :: r, bg, bf => match wayK (cut data (some (f : Int)) (some (l : Int))) bnd with
    | 0 => psR data bnd en r bg l
    | 1 => endP bg bf ++ psR data bnd en r (some h) l
    | _ => endP bg bf
noncomputable abbrev psNs : List Str := ["data", "at", "end", "boundary", "found", "begun", "before", "first", "last", "behind", "way"]
noncomputable abbrev psGl : List Str := ["line_spans", "boundary_way", "max"]
theorem ps_scope : okFn (scopeAt 12) psNs psGl = true := by decide +kernel
structure LibPs (W : GW) (aLs aBw a : Addr) : Prop where
  ls : LibLs W aLs
  bw : LibBw W aBw
  f : FnAt W a 12 ["data", "at", "end", "boundary"]
  lsd : GD W "line_spans" (.ref aLs)
  bwd : GD W "boundary_way" (.ref aBw)
  max : GD W "max" (.val (.builtin "max"))
theorem way_ne {k : Nat} : ((wayStr k).cps.toList != (Str.ofString "").cps.toList) = (k != 0) := by
  match k with
  | 0 => decide +kernel
  | 1 => decide +kernel
  | k + 2 => exact (by decide +kernel : ((Str.ofString "last").cps.toList != (Str.ofString "").cps.toList) = true)
theorem way_last {k : Nat} (h : k ≠ 0) : ((wayStr k).cps.toList == (Str.ofString "last").cps.toList) = (k != 1) := by
  match k with
  | 0 => exact absurd rfl h
  | 1 => decide +kernel
  | k + 2 => exact (by decide +kernel : ((Str.ofString "last").cps.toList == (Str.ofString "last").cps.toList) = true)
noncomputable abbrev psGs (aLs aBw : Addr) : List (Str × D) := [("line_spans", .ref aLs), ("boundary_way", .ref aBw), ("max", .val (.builtin "max"))]
noncomputable abbrev psJ (μ : Led) (data bnd : List UInt8) (at_ en : Nat) (a0 al : Addr) (sp : List (Nat × Nat × Nat)) (tot : List (Int × Int)) (i : Nat) (ds : List (Option D)) (μ' : Led) : Prop := ∃ (acc : List (Int × Int)) (bg : Option Nat) (bf : Nat) (o1 o2 o3 o4 : Option D), acc.length ≤ i ∧
    ds = [some (.bytes data), some (.int at_), some (.int en), some (.bytes bnd), some (.ref a0), some (.int (begI bg)), some (.int bf), o1, o2, o3, o4] ∧
    acc ++ psR data bnd en (sp.drop i) bg bf = tot ∧ Ext μ μ' ∧ μ' al = some (sp.map spD) ∧ μ' a0 = some (acc.map pairD)
@[elab_as_elim] theorem psJ.elim {μ : Led} {data bnd : List UInt8} {at_ en : Nat} {a0 al : Addr} {sp : List (Nat × Nat × Nat)} {tot : List (Int × Int)} {i : Nat} {ds : List (Option D)} {μ' : Led} {P : List (Option D) → Prop} (h : psJ μ data bnd at_ en a0 al sp tot i ds μ')
    (k : ∀ (acc : List (Int × Int)) (bg : Option Nat) (bf : Nat) (o1 o2 o3 o4 : Option D), acc.length ≤ i → acc ++ psR data bnd en (sp.drop i) bg bf = tot → Ext μ μ' → μ' al = some (sp.map spD) → μ' a0 = some (acc.map pairD) →
      P [some (.bytes data), some (.int at_), some (.int en), some (.bytes bnd), some (.ref a0), some (.int (begI bg)), some (.int bf), o1, o2, o3, o4]) : P ds := by
  obtain ⟨acc, bg, bf, o1, o2, o3, o4, h1, rfl, h2, h3, h4, h5⟩ := h
  exact k acc bg bf o1 o2 o3 o4 h1 h2 h3 h4 h5
theorem acc_size {acc : List (Int × Int)} {i n : Nat} (h : acc.length ≤ i) (hi : i ≤ n) (hz : n ≤ 10000) : (acc.map pairD).length ≤ sizeLine := by rw [List.length_map, sizeLine_eq]; exact Nat.le_trans h (Nat.le_trans hi (Nat.le_trans hz (by decide)))
theorem max_of (b bf : Nat) : (if (bf : Int) > (b : Int) then (bf : Int) else (b : Int)) = ((max b bf : Nat) : Int) := by
  split
  · rename_i h; rw [Nat.max_eq_right (Nat.le_of_lt (Int.ofNat_lt.mp h))]
  · rename_i h; rw [Nat.max_eq_left (Int.ofNat_le.mp (Int.not_lt.mp h))]
theorem endP_len (bg : Option Nat) (bf : Nat) : (endP bg bf).length ≤ 1 := by cases bg <;> simp [endP]
theorem ps_wc {W : GW} {n : Nat} {aLs aBw a : Addr} (x : LibPs W aLs aBw a) {data bnd : List UInt8} {at_ en : Nat} {μ : Led} {K : D → Led → Prop} (hz : data.length ≤ 10000) (hb : bnd.length ≤ 1000) (hae : at_ ≤ en) (hel : en ≤ data.length)
    (k : ∀ a μ', Ext μ μ' → μ a = none → μ' a = some ((psR data bnd en (spansF data en (en - at_) at_) none at_).map pairD) → K (.ref a) μ') : Wc W (n + 2) (.ref a) [.bytes data, .int at_, .int en, .bytes bnd] μ K := by
  refine x.f.wc ["found", "begun", "before", "first", "last", "behind", "way"] psNs (psGs aLs aBw)
    [some (.bytes data), some (.int at_), some (.int en), some (.bytes bnd), none, none, none, none, none, none, none] ps_scope (.cons x.lsd (.cons x.bwd (.cons x.max .nil))) rfl fun e he => ?_
  refine Ws.cons ?_
  repeat walk_at "my"
  refine Wp.list (Wl.nil ⟨few (Nat.le_of_ble_eq_true rfl), fun a0 ha0 => ?_⟩)
  repeat walk_at "my"
  refine W1.neg_int ?_
  repeat walk_at "my"
  refine We.for_ (fun _ _ => rfl) (Wit.list ?_)
  repeat walk_at "my"
  refine call_fn x.ls.f.callee ?_
  repeat walk_at "my"
  refine ls_wc3 x.ls hae hel hz fun al μ1 hext hal hl => ?_
  generalize hsp : spansF data en (en - at_) at_ = sp at hl k
  have hsl : sp.length ≤ data.length := hsp ▸ Nat.le_trans (spans_len ..) (Nat.le_trans (Nat.sub_le _ _) hel)
  generalize htot : psR data bnd en sp none at_ = tot at k
  have h0 : μ1 a0 = some [] := hext _ _ (upd_same _ _ _)
  have hne : al ≠ a0 := fun q => by rw [q, upd_same] at hal; cases hal
  have hx1 : Ext μ μ1 := (Ext.upd ha0).trans hext
  have fin : ∀ μ' acc', acc' = tot → Ext μ μ' → μ' a0 = some (acc'.map pairD) → K (.ref a0) μ' := fun μ' acc' e hx hm => k a0 μ' hx ha0 (e ▸ hm)
  refine ⟨_, .led hl, psJ μ data bnd at_ en a0 al sp tot,
    ⟨[], none, at_, none, none, none, none, Nat.le_refl _, rfl, htot, hx1, hl, h0⟩, ?_, ?_, ?_⟩
  · intro i ds μ' hJ; exact psJ.elim (P := fun _ => Lis _ _ _ _) hJ fun _ _ _ _ _ _ _ _ _ _ h _ => .led h
  · intro i d ds1 μ2 hx hJ
    refine psJ.elim hJ fun acc bg bf o1 o2 o3 o4 hacl hacc hx2 hl2 ha2 => ?_
    clear hJ
    refine map_get hx fun t q => ?_
    · clear hx
      obtain ⟨hi, hq⟩ := List.getElem?_eq_some_iff.mp q
      have hin : i ≤ data.length := Nat.le_trans (Nat.le_of_lt hi) hsl
      obtain ⟨tf, tl, th⟩ := t
      have hdrop : sp.drop i = (tf, tl, th) :: sp.drop (i + 1) := by rw [List.drop_eq_getElem_cons hi, hq]
      rw [hdrop] at hacc
      unfold psR at hacc
      unfold spD
      repeat walk_at "my"
      refine call_fn x.bw.f.callee ?_
      repeat walk_at "my"
      refine ⟨le_sz hz rfl, ?_⟩
      repeat walk_at "my"
      refine bw_wc x.bw (Nat.le_trans (cut_length_le _ _ _) hz) hb ?_
      generalize wayK (cut data (some (tf : Int)) (some (tl : Int))) bnd = w at hacc ⊢
      repeat walk_at "my"
      rw [way_ne]
      refine ite_of (fun hw => ?_) fun hw => ?_
      · have hw : w ≠ 0 := by simpa using hw
        have hacc : (acc ++ endP bg bf) ++ (if w = 1 then psR data bnd en (sp.drop (i + 1)) (some th) tl else []) = tot := by
          rw [← hacc, List.append_assoc]
          congr 1
          match w with
          | 0 => exact absurd rfl hw
          | 1 => rfl
          | w + 2 => simp
        have hapl : (acc ++ endP bg bf).length ≤ i + 1 := by rw [List.length_append]; exact Nat.add_le_add hacl (endP_len bg bf)
        refine Ws.cons (We.mono (K := fun g ds μ' => g = .next ∧ ds = [some (.bytes data), some (.int at_), some (.int en), some (.bytes bnd), some (.ref a0), some (.int (begI bg)), some (.int bf), some (.int tf), some (.int tl), some (.int th), some (.str (wayStr w))] ∧
          Ext μ μ' ∧ μ' al = some (sp.map spD) ∧ μ' a0 = some ((acc ++ endP bg bf).map pairD)) ?_ ?_)
        · repeat walk_at "my"
          cases bg with
          | none =>
            refine ite_of (fun hc => absurd hc (by decide)) fun hc => ?_
            repeat walk_at "my"
            exact ⟨rfl, rfl, hx2, hl2, by simpa [endP] using ha2⟩
          | some b =>
            refine ite_of (fun hc => ?_) fun hc => absurd (by simp [begI]) hc
            repeat walk_at "my"
            refine ref_of ha2 ?_
            repeat walk_at "my"
            refine Wc.max ?_
            repeat walk_at "my"
            refine Wc.append ha2 (acc_size hacl hin hz) ?_
            repeat walk_at "my"
            refine ⟨rfl, rfl, fun c ds q' => ?_, (upd_ne _ _ hne).trans hl2, ?_⟩
            · have hca : c ≠ a0 := fun z => by rw [z, ha0] at q'; cases q'
              exact (upd_ne _ _ hca).trans (hx2 _ _ q')
            · rw [upd_same, List.map_append]
              congr 2
              show [D.tup [.int (b : Int), .int (if (bf : Int) > (b : Int) then (bf : Int) else (b : Int))]] = [D.tup [.int (b : Int), .int ((max b bf : Nat) : Int)]]
              rw [max_of]
        rintro g ds2 μ3 ⟨rfl, rfl, hx3, hl3, ha3⟩
        repeat walk_at "my"
        rw [way_last hw]
        refine ite_of (fun hc => ?_) fun hc => ?_
        · have hc : w ≠ 1 := by simpa using hc
          rw [if_neg hc, List.append_nil] at hacc
          repeat walk_at "my"
          exact fin _ _ hacc hx3 ha3
        · have hc : w = 1 := by simpa using hc
          rw [if_pos hc] at hacc
          repeat walk_at "my"
          exact ⟨_, some th, tl, _, _, _, _, hapl, rfl, hacc, hx3, hl3, ha3⟩
      · have hw : w = 0 := by simpa using hw
        subst hw
        repeat walk_at "my"
        exact ⟨acc, bg, tl, _, _, _, _, Nat.le_succ_of_le hacl, rfl, hacc, hx2, hl2, ha2⟩
  · intro ds1 μ2 hJ
    refine psJ.elim hJ fun acc bg bf o1 o2 o3 o4 hacl hacc hx2 hl2 ha2 => ?_
    clear hJ
    rw [List.drop_of_length_le (by simp)] at hacc
    repeat walk_at "my"
    cases bg with
    | none =>
      refine ite_of (fun hc => absurd hc (by decide)) fun hc => ?_
      repeat walk_at "my"
      exact fin _ _ (by rw [← hacc]; simp [psR]) hx2 ha2
    | some b =>
      refine ite_of (fun hc => ?_) fun hc => absurd (by simp [begI]) hc
      repeat walk_at "my"
      refine ref_of ha2 ?_
      repeat walk_at "my"
      refine Wc.append ha2 (acc_size hacl (by rw [List.length_map]; exact hsl) hz) ?_
      repeat walk_at "my"
      refine fin _ _ hacc (fun c ds q' => ?_) ?_
      · have hca : c ≠ a0 := fun z => by rw [z, ha0] at q'; cases q'
        exact (upd_ne _ _ hca).trans (hx2 _ _ q')
      · rw [upd_same, List.map_append]; rfl

theorem cut_to {α : Type} (b : List α) (n : Nat) : cut b none (some (n : Int)) = b.take n := by
  unfold cut
  simp only [Option.elim, clipAt_nat, List.drop_zero, Nat.sub_zero]
  rcases Nat.le_total n b.length with h | h
  · rw [Nat.min_eq_left h]
  · rw [Nat.min_eq_right h, List.take_of_length_le (Nat.le_refl _), List.take_of_length_le h]
theorem cut_from {α : Type} (b : List α) (n : Nat) : cut b (some (n : Int)) none = b.drop n := by
  unfold cut
  simp only [Option.elim, clipAt_nat]
  rcases Nat.le_total n b.length with h | h
  · rw [Nat.min_eq_left h, List.take_of_length_le (by simp)]
  · rw [Nat.min_eq_right h, List.drop_of_length_le (Nat.le_refl _), List.drop_of_length_le h]; simp
theorem cut_mid {α : Type} (b : List α) (n m : Nat) : cut b (some (n : Int)) (some (m : Int)) = (b.drop n).take (m - n) := by
  unfold cut
  simp only [Option.elim, clipAt_nat]
  rcases Nat.le_total n b.length with h | h
  · rw [Nat.min_eq_left h]
    rcases Nat.le_total m b.length with h2 | h2
    · rw [Nat.min_eq_left h2]
    · rw [Nat.min_eq_right h2, List.take_of_length_le (by simp), List.take_of_length_le (by simp; omega)]
  · rw [Nat.min_eq_right h, List.drop_of_length_le (Nat.le_refl _), List.drop_of_length_le h]; simp

/-! ### the tape is made -/
theorem tp_scope : okFn (scopeAt 16) ["script"] ["len"] = true := by decide +kernel
structure LibTp (W : GW) (a : Addr) : Prop where
  f : FnAt W a 16 ["script"]
  len : GD W "len" (.val (.builtin "len"))
  abs : GD W "abs" (.val (.builtin "abs"))
  int : GD W "int" (.val (.type "int"))
theorem tp_wc {W : GW} {n : Nat} {a l : Addr} {xs : List Int} (x : LibTp W a) (hs : ∀ g, W.Glb g → ∃ vs, g.IsList l vs ∧ Reps g vs.toList (xs.map D.int)) (hx : xs.length ≤ 1000) {μ : Led} {K : D → Led → Prop}
    (k : ∀ t c μ', Ext μ μ' → TapeAt μ' t c → K (.ref t) μ') : Wc W (n + 1) (.ref a) [.ref l] μ K := by
  refine x.f.wc [] ["script"] [("len", .val (.builtin "len"))] [some (.ref l)] tp_scope (.cons x.len .nil) rfl fun e he => ?_
  refine Ws.cons ?_
  repeat walk_at "my"
  refine Wp.list ?_
  repeat walk_at "my"
  refine Wp.comp ["cell"] [] [("abs", .val (.builtin "abs")), ("int", .val (.type "int"))] [none]
    (okCp_of (gl := ["abs", "int"]) (fr := []) (by decide +kernel) rfl (.cons x.abs (.cons x.int .nil)) no_free) (fun y d q => ?_) (fun _ _ => rfl) (Wit.list (Wp.slice_list ?_))
  · cases q with
    | tail q => cases q
  repeat walk_at "my"
  refine ⟨xs.map D.int, .glb hs, by rw [List.length_map]; exact few hx, fun b hb => ?_⟩
  have e40 : cut (xs.map D.int) none (some 40) = (xs.take 40).map D.int := by
    rw [show (40 : Int) = ((40 : Nat) : Int) from rfl, cut_to, List.map_take]
  rw [e40]
  generalize hys : xs.take 40 = ys
  have hyl : ys.length ≤ 40 := by rw [← hys]; simp; omega
  refine ⟨ys.map D.int, .led (upd_same _ _ _), fun i μ' zs => μ' = upd μ b (ys.map D.int) ∧ ∃ ns : List Int, zs = ns.map D.int ∧ ns.length = min i ys.length ∧ ∀ n ∈ ns, (0 : Int) ≤ n, ⟨rfl, [], rfl, by simp, by simp⟩, ?_, ?_, ?_, ?_, ?_⟩
  · rintro i μ' zs ⟨rfl, -⟩; exact .led (upd_same _ _ _)
  · rintro i μ' zs ⟨-, ns, rfl, hl, -⟩; rw [List.length_map, hl]; exact Nat.min_le_left _ _
  · rw [List.length_map]; exact few (Nat.le_trans hyl (by decide))
  · rintro e' he' i d μ' zs hx' ⟨rfl, ns, rfl, hl, hn⟩
    rw [List.getElem?_map] at hx'
    cases q : ys[i]? with
    | none => rw [q] at hx'; cases hx'
    | some v =>
      rw [q] at hx'
      cases hx'
      obtain ⟨hi, -⟩ := List.getElem?_eq_some_iff.mp q
      repeat walk_at "my"
      refine Wc.int ?_
      repeat walk_at "my"
      refine Wc.abs ?_
      repeat walk_at "my"
      refine W2.pow_int (by decide) (by decide +kernel) ?_
      refine W2.mod_int (by decide) ⟨rfl, ns ++ [(if v < 0 then -v else v).fmod (10 ^ (60 : Int).toNat)], by rw [List.map_append]; rfl, (List.length_append ..).trans (min_next (by assumption) hi), fun m hm => ?_⟩
      rcases List.mem_append.mp hm with h | h
      · exact hn m h
      · rw [List.mem_singleton.mp h]
        exact Int.fmod_nonneg_of_pos _ (by decide)
  · rintro μ' zs ⟨rfl, ns, rfl, hl, hn⟩ c hc
    repeat walk_at "my"
    refine Wc.len_list (.glb hs) (by rw [List.length_map]; omega) ?_
    repeat walk_at "my"
    refine ⟨few (Nat.le_of_ble_eq_true rfl), fun t ht => ?_⟩
    repeat walk_at "my"
    have htc : t ≠ c := fun z => by rw [z, upd_same] at ht; cases ht
    refine k t c _ ((Ext.upd hb).trans ((Ext.upd hc).trans (Ext.upd ht))) ⟨0, _, ns, upd_same _ _ _, (upd_ne _ _ (Ne.symm htc)).trans (upd_same _ _ _), Int.le_refl _, by rw [List.length_map] at hl; omega, hn, htc⟩

/-! ### _law_hindered -/
noncomputable abbrev lead8 : List UInt8 := [45, 45, 61, 95, 112, 97, 114, 116]
/-- the numbers of the figures from a place on -/
noncomputable def hlR (line : List UInt8) : Nat → Nat → Nat → List Nat
  | 0, _, _ => []
  | k + 1, i, tot => if line.take 8 ≠ lead8 ∨ ¬ (48 ≤ (line.getD i 0).toNat ∧ (line.getD i 0).toNat ≤ 57) ∨ (i > 8 ∧ (line.getD 8 0).toNat = 48) then [] else
    (10 * tot + (line.getD i 0).toNat - 48) :: hlR line k (i + 1) (10 * tot + (line.getD i 0).toNat - 48)
noncomputable def hindLine (line : List UInt8) : List Nat := hlR line (line.length - 8) 8 0
noncomputable def hind (body : List UInt8) : List Nat := ((splitB 10 body).map hindLine).flatten
theorem hlR_len (line : List UInt8) : ∀ k i t, (hlR line k i t).length ≤ k
  | 0, _, _ => Nat.le_refl _
  | k + 1, i, t => by
    unfold hlR
    split
    · simp
    · have := hlR_len line k (i + 1) (10 * t + (line.getD i 0).toNat - 48)
      simp only [List.length_cons]; omega
theorem splitB_sum (c : UInt8) : ∀ l, (splitB c l).flatten.length ≤ l.length
  | [] => by simp [splitB]
  | x :: r => by
    have ih := splitB_sum c r
    obtain ⟨q, qs, e⟩ := splitB_ne c r
    unfold splitB
    split
    · simp at ih ⊢; omega
    · rw [e] at ih ⊢; simp at ih ⊢; omega
theorem hind_len (body : List UInt8) : (hind body).length ≤ body.length := by
  have key : ∀ ls : List (List UInt8), (ls.map hindLine).flatten.length ≤ ls.flatten.length := by
    intro ls
    induction ls with
    | nil => simp
    | cons l ls ih =>
      have := hlR_len l (l.length - 8) 8 0
      simp only [List.map_cons, List.flatten_cons, List.length_append]
      have h2 : (hindLine l).length ≤ l.length := Nat.le_trans this (Nat.sub_le ..)
      omega
  exact Nat.le_trans (key _) (splitB_sum 10 body)
noncomputable abbrev hdNs : List Str := ["body", "found", "line", "total", "at"]
theorem hd_scope : okFn (scopeAt 19) hdNs ["range", "len"] = true := by decide +kernel
structure LibHd (W : GW) (a : Addr) : Prop where
  f : FnAt W a 19 ["body"]
  range : GD W "range" (.val (.type "range"))
  len : GD W "len" (.val (.builtin "len"))
noncomputable abbrev natD (n : Nat) : D := .int (n : Int)
noncomputable abbrev hdGs : List (Str × D) := [("range", .val (.type "range")), ("len", .val (.builtin "len"))]
noncomputable abbrev hdJ (μ : Led) (body : List UInt8) (a0 al : Addr) (ls : List (List UInt8)) (tot : List Nat) (i : Nat) (ds : List (Option D)) (μ' : Led) : Prop := ∃ (acc : List Nat) (o1 o2 o3 : Option D),
    ds = [some (.bytes body), some (.ref a0), o1, o2, o3] ∧ acc ++ ((ls.drop i).map hindLine).flatten = tot ∧ Ext μ μ' ∧ μ' al = some (ls.map D.bytes) ∧ μ' a0 = some (acc.map natD)
@[elab_as_elim] theorem hdJ.elim {μ : Led} {body : List UInt8} {a0 al : Addr} {ls : List (List UInt8)} {tot : List Nat} {i : Nat} {ds : List (Option D)} {μ' : Led} {P : List (Option D) → Prop} (h : hdJ μ body a0 al ls tot i ds μ')
    (k : ∀ (acc : List Nat) (o1 o2 o3 : Option D), acc ++ ((ls.drop i).map hindLine).flatten = tot → Ext μ μ' → μ' al = some (ls.map D.bytes) → μ' a0 = some (acc.map natD) → P [some (.bytes body), some (.ref a0), o1, o2, o3]) : P ds := by
  obtain ⟨acc, o1, o2, o3, rfl, h1, h2, h3, h4⟩ := h
  exact k acc o1 o2 o3 h1 h2 h3 h4
noncomputable abbrev hdI (μ : Led) (body : List UInt8) (a0 al : Addr) (ls : List (List UInt8)) (tot restF : List Nat) (line : List UInt8) (m : Nat) (ds : List (Option D)) (μ' : Led) : Prop := ∃ (tt : Nat) (acc2 : List Nat) (o : Option D),
    ds = [some (.bytes body), some (.ref a0), some (.bytes line), some (.int tt), o] ∧ acc2 ++ (hlR line (line.length - 8 - m) (8 + m) tt ++ restF) = tot ∧ Ext μ μ' ∧ μ' al = some (ls.map D.bytes) ∧ μ' a0 = some (acc2.map natD)
@[elab_as_elim] theorem hdI.elim {μ : Led} {body : List UInt8} {a0 al : Addr} {ls : List (List UInt8)} {tot restF : List Nat} {line : List UInt8} {m : Nat} {ds : List (Option D)} {μ' : Led} {P : List (Option D) → Prop} (h : hdI μ body a0 al ls tot restF line m ds μ')
    (k : ∀ (tt : Nat) (acc2 : List Nat) (o : Option D), acc2 ++ (hlR line (line.length - 8 - m) (8 + m) tt ++ restF) = tot → Ext μ μ' → μ' al = some (ls.map D.bytes) → μ' a0 = some (acc2.map natD) → P [some (.bytes body), some (.ref a0), some (.bytes line), some (.int tt), o]) : P ds := by
  obtain ⟨tt, acc2, o, rfl, h1, h2, h3, h4⟩ := h
  exact k tt acc2 o h1 h2 h3 h4
theorem hA1 {n m : Nat} (h : m < ((n : Int) - 8).toNat) : m < n - 8 := Int.toNat_sub n 8 ▸ h
theorem hA2 {n m : Nat} (h : m < n - 8) : ∃ k', n - 8 - m = k' + 1 := ⟨n - 8 - m - 1, (Nat.sub_add_cancel (Nat.sub_pos_of_lt h)).symm⟩
theorem hA3 (m : Nat) : ((8 : Int) + m).toNat = 8 + m := rfl
theorem hA4 {n m k' : Nat} (h : n - 8 - m = k' + 1) : n - 8 - (m + 1) = k' := by rw [Nat.sub_succ, h]; rfl
theorem hA5 {n : Nat} (h : n ≤ 10000) : -(2 ^ 62) ≤ (8 : Int) ∧ (8 : Int) < 2 ^ 62 ∧ -(2 ^ 62) ≤ (n : Int) ∧ (n : Int) < 2 ^ 62 := ⟨by decide, by decide, Int.le_trans (by decide) (Int.natCast_nonneg n), Int.lt_of_le_of_lt (Int.ofNat_le.mpr h) (by decide)⟩
theorem hA6 (m : Nat) : (0 : Int) ≤ 8 + (m : Int) := Int.natCast_nonneg (8 + m)
theorem hA7 {n m : Nat} (h : m < n - 8) : (8 : Int) + (m : Int) < (n : Int) := Int.ofNat_lt.mpr (Nat.add_lt_of_lt_sub' h)
theorem hA8 {n m : Nat} (h : m < n - 8) : (8 : Int) < (n : Int) := Int.ofNat_lt.mpr (Nat.lt_of_sub_pos (Nat.lt_of_le_of_lt (Nat.zero_le m) h))
theorem hB1 {v : Nat} (h : 48 ≤ v) : decide ((48 : Int) ≤ (v : Int)) = true := decide_eq_true (by omega)
theorem hB2 {v : Nat} (h : v ≤ 57) : ¬ (!decide ((v : Int) ≤ 57)) = true := by rw [decide_eq_true (by omega : (v : Int) ≤ 57)]; decide
theorem hB3 {m : Nat} (h : m > 0) : decide ((8 : Int) + m > 8) = true := decide_eq_true (by omega)
theorem hB4 {w : Nat} (h : w = 48) : ((w : Int) == 48) = true := by subst h; rfl
theorem hB5 {w : Nat} (h : ¬ w = 48) : ¬ ((w : Int) == 48) = true := by rw [beq_iff_eq]; omega
theorem hB6 {m : Nat} (h : ¬ m > 0) : ¬ decide ((8 : Int) + m > 8) = true := by rw [decide_eq_true_eq]; omega
theorem hB7 {v : Nat} (h : ¬ v ≤ 57) : (!decide ((v : Int) ≤ 57)) = true := by rw [decide_eq_false (by omega : ¬ (v : Int) ≤ 57)]; rfl
theorem hB8 {v : Nat} (h : ¬ 48 ≤ v) : ¬ decide ((48 : Int) ≤ (v : Int)) = true := by rw [decide_eq_true_eq]; omega
theorem hC1 {P : Prop} {v w m : Nat} (h1 : m > 0) (h2 : w = 48) : P ∨ ¬ (48 ≤ v ∧ v ≤ 57) ∨ (8 + m > 8 ∧ w = 48) := .inr (.inr ⟨by omega, h2⟩)
theorem hC2 {P : Prop} {v w m : Nat} (hA : ¬ P) (h1 : 48 ≤ v) (h2 : v ≤ 57) (h3 : ¬ w = 48 ∨ ¬ m > 0) : ¬ (P ∨ ¬ (48 ≤ v ∧ v ≤ 57) ∨ (8 + m > 8 ∧ w = 48)) := by
  rintro (h | h | h)
  · exact hA h
  · omega
  · omega
theorem hC3 {P Q : Prop} {v : Nat} (h : ¬ (48 ≤ v ∧ v ≤ 57)) : P ∨ ¬ (48 ≤ v ∧ v ≤ 57) ∨ Q := .inr (.inl h)
theorem hD1 {tt v : Nat} (h : 48 ≤ v) : (10 : Int) * tt + v - 48 = ((10 * tt + v - 48 : Nat) : Int) := (Int.ofNat_sub (Nat.le_trans h (Nat.le_add_left _ _))).symm
theorem hD2 {acc2 R tot : List Nat} (h : acc2 ++ R = tot) : acc2.length ≤ tot.length := by rw [← h, List.length_append]; exact Nat.le_add_right _ _
theorem hD3 {acc tot : List Nat} {n : Nat} (h : acc.length ≤ tot.length) (h2 : tot.length ≤ n) (h3 : n ≤ 10000) : (acc.map natD).length ≤ sizeLine := by rw [List.length_map, sizeLine_eq]; omega
theorem hD4 (n : Nat) : n - 8 - (intsD 8 n).length = 0 := by
  rw [intsD_length]
  have : ((n : Int) - (8 : Int)).toNat = n - 8 := Int.toNat_sub n 8
  rw [this, Nat.sub_self]
theorem hd_wc {W : GW} {n : Nat} {a : Addr} (x : LibHd W a) {body : List UInt8} (hz : body.length ≤ 10000) {μ : Led} {K : D → Led → Prop}
    (k : ∀ a μ', Ext μ μ' → μ a = none → μ' a = some ((hind body).map natD) → K (.ref a) μ') : Wc W (n + 1) (.ref a) [.bytes body] μ K := by
  refine x.f.wc ["found", "line", "total", "at"] hdNs hdGs [some (.bytes body), none, none, none, none] hd_scope (.cons x.range (.cons x.len .nil)) rfl fun e he => ?_
  refine Ws.cons ?_
  repeat walk_at "my"
  refine Wp.list (Wl.nil ⟨few (Nat.le_of_ble_eq_true rfl), fun a0 ha0 => ?_⟩)
  repeat walk_at "my"
  refine We.for_ (fun _ _ => rfl) (Wit.list ?_)
  repeat walk_at "my"
  refine Wc.split (Nat.lt_of_le_of_lt hz (by decide)) fun al hal => ?_
  have hne : al ≠ a0 := fun q => by rw [q, upd_same] at hal; cases hal
  have hlen := hind_len body
  have hpl := splitB_length 10 body
  unfold hind at k hlen
  generalize splitB 10 body = ls at k hlen hpl hal ⊢
  generalize htot : (ls.map hindLine).flatten = tot at k hlen
  have fin : ∀ μ' acc', acc' = tot → Ext μ μ' → μ' a0 = some (acc'.map natD) → K (.ref a0) μ' := fun μ' acc' e hx hm => k a0 μ' hx ha0 (e ▸ hm)
  refine ⟨ls.map D.bytes, .led (upd_same _ _ _), hdJ μ body a0 al ls tot,
    ⟨[], none, none, none, rfl, htot, (Ext.upd ha0).trans (Ext.upd hal), upd_same _ _ _, upd_some (upd_same _ _ _) hal⟩, ?_, ?_, ?_⟩
  · intro i ds μ' hJ; exact hdJ.elim (P := fun _ => Lis _ _ _ _) hJ fun _ _ _ _ _ _ h _ => .led h
  · intro i d ds1 μ2 hx hJ
    refine hdJ.elim hJ fun acc o1 o2 o3 hacc hx2 hl2 ha2 => ?_
    clear hJ
    refine map_get hx fun line q => ?_
    · clear hx
      obtain ⟨hi, hq⟩ := List.getElem?_eq_some_iff.mp q
      have hll : line.length ≤ 10000 := Nat.le_trans (hpl line (List.mem_of_getElem? q)) hz
      rw [List.drop_eq_getElem_cons hi, hq, List.map_cons, List.flatten_cons] at hacc
      repeat walk_at "my"
      refine We.for_ (fun _ _ => rfl) (Wit.range (fun _ => rfl) (fun _ => rfl) ?_)
      repeat walk_at "my"
      refine ⟨rfl, ?_⟩
      repeat walk_at "my"
      refine Wc.len_sz hll rfl ?_
      repeat walk_at "my"
      generalize hrest : ((ls.drop (i + 1)).map hindLine).flatten = restF at hacc
      have outer : ∀ (acc3 : List Nat) (o1 o2 o3 : Option D) (μ' : Led), acc3 ++ restF = tot → Ext μ μ' → μ' al = some (ls.map D.bytes) → μ' a0 = some (acc3.map natD) → hdJ μ body a0 al ls tot (i + 1) [some (D.bytes body), some (D.ref a0), o1, o2, o3] μ' :=
        fun acc3 o1 o2 o3 μ' h1 h2 h3 h4 => ⟨acc3, o1, o2, o3, rfl, by rw [hrest]; exact h1, h2, h3, h4⟩
      refine ⟨8, line.length, .inl rfl, hA5 hll, hdI μ body a0 al ls tot restF line,
        ⟨0, acc, _, rfl, hacc, hx2, hl2, ha2⟩, fun _ _ _ _ => trivial, ?_, ?_⟩
      · intro m d ds2 μ3 hx hJ
        refine hdI.elim hJ fun tt acc2 o hacc2 hx3 hl3 ha3 => ?_
        clear hJ
        obtain ⟨hm, rfl⟩ := intsD_get _ _ hx
        have hm := hA1 hm
        clear hx
        obtain ⟨k', hk'⟩ := hA2 hm
        rw [hk'] at hacc2
        unfold hlR at hacc2
        have e8 : cut line none (some 8) = line.take 8 := cut_to line 8
        have ei := hA3 m
        have hal2 := hD2 hacc2
        generalize hv : (line.getD (8 + m) 0).toNat = v at hacc2
        generalize hw : (line.getD 8 0).toNat = w at hacc2
        walk_at "my"
        refine Ws.cons (We.mono (K := fun g ds' μ' => ds' = [some (.bytes body), some (.ref a0), some (.bytes line), some (.int tt), some (.int (8 + m))] ∧ μ3 = μ' ∧
          ((g = .brk ∧ acc2 ++ restF = tot) ∨ (g = .next ∧ acc2 ++ ((10 * tt + v - 48) :: hlR line k' (8 + m + 1) (10 * tt + v - 48) ++ restF) = tot ∧ 48 ≤ v))) ?_ ?_)
        · repeat walk_at "my"
          refine ⟨le_sz hll rfl, ?_⟩
          repeat walk_at "my"
          rw [e8]
          by_cases hA : line.take 8 = lead8
          · refine ite_of (fun hc => absurd hA (by simpa using hc)) fun _ => ?_
            repeat walk_at "my"
            refine sub_bytes (hA6 m) (hA7 hm) (le_sz hll rfl) ?_
            rw [ei, hv]
            repeat walk_at "my"
            by_cases b1 : 48 ≤ v
            · refine ite_of (fun _ => ?_) fun hc => absurd (hB1 b1) hc
              repeat walk_at "my"
              by_cases b2 : v ≤ 57
              · refine ite_of (fun hc => absurd hc (hB2 b2)) fun _ => ?_
                repeat walk_at "my"
                by_cases c1 : m > 0
                · refine ite_of (fun _ => ?_) fun hc => absurd (hB3 c1) hc
                  repeat walk_at "my"
                  refine sub_bytes (by decide) (hA8 hm) (le_sz hll rfl) ?_
                  rw [show ((8 : Int)).toNat = 8 from rfl, hw]
                  repeat walk_at "my"
                  by_cases c2 : w = 48
                  · rw [if_pos (hC1 c1 c2)] at hacc2
                    refine ite_of (fun _ => ?_) fun hc => absurd (hB4 c2) hc
                    repeat walk_at "my"
                    exact ⟨rfl, rfl, .inl ⟨rfl, hacc2⟩⟩
                  · rw [if_neg (hC2 (fun h => h hA) b1 b2 (.inl c2))] at hacc2
                    refine ite_of (fun hc => absurd hc (hB5 c2)) fun _ => ?_
                    repeat walk_at "my"
                    exact ⟨rfl, rfl, .inr ⟨rfl, hacc2, b1⟩⟩
                · rw [if_neg (hC2 (fun h => h hA) b1 b2 (.inr c1))] at hacc2
                  refine ite_of (fun hc => absurd hc (hB6 c1)) fun _ => ?_
                  repeat walk_at "my"
                  exact ⟨rfl, rfl, .inr ⟨rfl, hacc2, b1⟩⟩
              · rw [if_pos (hC3 fun h => b2 h.2)] at hacc2
                refine ite_of (fun _ => ?_) fun hc => absurd (hB7 b2) hc
                repeat walk_at "my"
                exact ⟨rfl, rfl, .inl ⟨rfl, hacc2⟩⟩
            · rw [if_pos (hC3 fun h => b1 h.1)] at hacc2
              refine ite_of (fun hc => absurd hc (hB8 b1)) fun _ => ?_
              refine ite_of (fun _ => ?_) fun hc => absurd (by decide) hc
              repeat walk_at "my"
              exact ⟨rfl, rfl, .inl ⟨rfl, hacc2⟩⟩
          · rw [if_pos (.inl hA)] at hacc2
            refine ite_of (fun _ => ?_) fun hc => absurd (by simpa using hA) hc
            repeat walk_at "my"
            exact ⟨rfl, rfl, .inl ⟨rfl, hacc2⟩⟩
        · rintro g ds' μ' ⟨rfl, rfl, ⟨rfl, hq2⟩ | ⟨rfl, hq2, hv48⟩⟩
          · repeat walk_at "my"
            exact outer acc2 _ _ _ _ hq2 hx3 hl3 ha3
          · repeat walk_at "my"
            refine W2.mul_int (IntMulOk.of_left (by decide)) ?_
            repeat walk_at "my"
            refine sub_bytes (hA6 m) (hA7 hm) (le_sz hll rfl) ?_
            rw [ei, hv]
            repeat walk_at "my"
            rw [hD1 hv48]
            generalize 10 * tt + v - 48 = tn at hq2 ⊢
            refine ref_of ha3 ?_
            repeat walk_at "my"
            refine Wc.append ha3 (hD3 hal2 hlen hz) ?_
            repeat walk_at "my"
            refine ⟨tn, acc2 ++ [tn], _, rfl, ?_, fun c ds q' => ?_, (upd_ne _ _ hne).trans hl3, ?_⟩
            · rw [hA4 hk', List.append_assoc]
              exact hq2
            · have hca : c ≠ a0 := fun z => by rw [z, ha0] at q'; cases q'
              exact (upd_ne _ _ hca).trans (hx3 _ _ q')
            · rw [upd_same, List.map_append]; rfl
      · intro ds2 μ3 hJ
        refine hdI.elim hJ fun tt acc2 o hacc2 hx3 hl3 ha3 => ?_
        clear hJ
        rw [hD4] at hacc2
        repeat walk_at "my"
        exact outer acc2 _ _ _ _ hacc2 hx3 hl3 ha3
  · intro ds1 μ2 hJ
    refine hdJ.elim hJ fun acc o1 o2 o3 hacc hx2 hl2 ha2 => ?_
    clear hJ
    rw [List.drop_of_length_le (by simp)] at hacc
    repeat walk_at "my"
    exact fin _ acc (by simpa using hacc) hx2 ha2

/-! ### _law_bodies -/
noncomputable def no14 : List UInt8 → Bool
  | [] => true
  | x :: r => !(x == 49 && r.head? == some 52) && no14 r
theorem no14_append : ∀ {a b : List UInt8}, no14 a = true → no14 b = true → b.head? ≠ some 52 → no14 (a ++ b) = true
  | [], b, _, hb, _ => hb
  | [x], b, _, hb, hh => by
    show (!(x == 49 && b.head? == some 52) && no14 b) = true
    rw [hb]
    cases q : b.head? == some 52 with
    | true => exact absurd (by simpa using q) hh
    | false => simp
  | x :: y :: r, b, ha, hb, hh => by
    simp only [no14, Bool.and_eq_true] at ha
    have ih : no14 (y :: r ++ b) = true := no14_append (by simp only [no14, Bool.and_eq_true]; exact ha.2) hb hh
    show (!(x == 49 && (y :: r ++ b).head? == some 52) && no14 (y :: r ++ b)) = true
    rw [ih]
    simpa using ha.1
noncomputable def startL : List (List UInt8) := [[], [], [97, 13, 10], [97]]
noncomputable def behL : List (List UInt8) := [[], [32], [45, 45], [120], [48], [51], [45, 45, 9]]
noncomputable def eolL : List (List UInt8) := [[13, 10], [10], [13]]
noncomputable def nearL : List (List UInt8) := [[32, 45, 45, 61, 95, 112, 97, 114, 116, 48], [45, 45, 61, 95, 80, 65, 82, 84, 49], [45, 45, 61, 95, 112, 97, 114, 116], [45, 45, 61, 95, 112, 97, 114, 116, 48, 55], [45, 61, 95, 112, 97, 114, 116, 50],
  [120, 45, 45, 61, 95, 112, 97, 114, 116, 51], [45, 45, 61, 95, 112, 97, 114, 116, 49, 50], [45, 45, 61, 95, 112, 97, 114, 116, 45, 49]]
theorem pieces_ok : ((List.range 14).all fun n => behL.all fun b => eolL.all fun e => no14 (lead8 ++ octs (numS n) ++ b ++ e) && decide ((lead8 ++ octs (numS n) ++ b ++ e).length ≤ 20)) = true := by decide +kernel
theorem near_ok : (nearL.all fun b => no14 (b ++ [10]) && decide ((b ++ [10]).length ≤ 20) && decide ((b ++ [10]).head? ≠ some 52)) = true := by decide +kernel
theorem num14 : ((List.range 14).all fun n => (numS n).cps.all (· < 128) && decide ((numS n).cps.size ≤ 2)) = true := by decide +kernel
theorem fdiv_lt {a b c : Int} (h0 : 0 < b) (h : a < b * c) : a.fdiv b < c := by
  rw [Int.fdiv_eq_ediv_of_nonneg _ (by omega)]
  exact Int.ediv_lt_of_lt_mul h0 (by rw [Int.mul_comm]; exact h)
theorem getD_mem {α : Type} {l : List α} {i : Nat} {d : α} (h : i < l.length) : l.getD i d ∈ l := by
  rw [List.getD_eq_getElem?_getD, List.getElem?_eq_getElem h]; exact List.getElem_mem h
theorem sub_tupB {W : GW} {n : Nat} {μ : Led} {K : D → Led → Prop} (L : List (List UInt8)) {i : Int} (h0 : 0 ≤ i) (h1 : i < L.length) (h2 : L.length ≤ 1000) (k : K (.bytes (L.getD i.toNat [])) μ) : (∃ T, TyS W μ (.tup (L.map D.bytes)) T) ∧ W2 W n getItem (.tup (L.map D.bytes)) (.int i) μ K :=
  sub_tup h0 (by omega) (by
    have h : i.toNat < L.length := by omega
    rw [List.getElem?_map, List.getElem?_eq_getElem h, List.getD_eq_getElem?_getD, List.getElem?_eq_getElem h]; rfl) k
noncomputable abbrev lbNs : List Str := ["tape", "count", "most", "gone", "turn", "bodies", "number", "drawn", "line", "spot"]
noncomputable abbrev lbGl : List Str := ["_law_draw", "range", "bytes", "str", "_law_behind", "_law_nearly"]
theorem lb_scope : okFn (scopeAt 18) lbNs lbGl = true := by decide +kernel
structure LibLb (W : GW) (aDr a : Addr) : Prop where
  dr : FnAt W aDr 17 drawPs
  len : GD W "len" (.val (.builtin "len"))
  f : FnAt W a 18 ["tape"]
  drd : GD W "_law_draw" (.ref aDr)
  range : GD W "range" (.val (.type "range"))
  bytes : GD W "bytes" (.val (.type "bytes"))
  str : GD W "str" (.val (.type "str"))
  ord : GD W "ord" (.val (.builtin "ord"))
  beh : GD W "_law_behind" (.tup (behL.map D.bytes))
  near : GD W "_law_nearly" (.tup (nearL.map D.bytes))
/-- bodies such as the law draws -/
noncomputable def Bods (m : Nat) (bs : List (List UInt8)) : Prop := ∀ b ∈ bs, b.length ≤ m ∧ no14 b = true
theorem Bods.mono {m m' : Nat} {bs : List (List UInt8)} (h : Bods m bs) (hm : m ≤ m') : Bods m' bs := fun b hb => ⟨Nat.le_trans (h b hb).1 hm, (h b hb).2⟩
theorem Chg.trans {t c : Addr} {a b d : Led} (x : Chg t c a b) (y : Chg t c b d) : Chg t c a d := fun p ds h1 h2 q => y p ds h1 h2 (x p ds h1 h2 q)
theorem Chg.refl (t c : Addr) (a : Led) : Chg t c a a := fun _ _ _ _ q => q
theorem Ext.chg {t c : Addr} {a b : Led} (x : Ext a b) : Chg t c a b := fun p ds _ _ q => x p ds q
theorem TapeAt.ext {μ μ' : Led} {t c : Addr} (x : TapeAt μ t c) (e : Ext μ μ') : TapeAt μ' t c := by
  obtain ⟨a, b, ns, h1, h2, r⟩ := x.out
  exact ⟨a, b, ns, e _ _ h1, e _ _ h2, r⟩
theorem TapeAt.ne {μ : Led} {t c : Addr} (x : TapeAt μ t c) {b : Addr} (h : μ b = none) : b ≠ t ∧ b ≠ c := by
  obtain ⟨_, _, ns, h1, h2, r⟩ := x.out
  exact ⟨fun z => (by rw [z, h1] at h; cases h), fun z => (by rw [z, h2] at h; cases h)⟩
/-- the bodies while they are drawn -/
structure BodSt (μ : Led) (t c b : Addr) (cnt m : Nat) (μ' : Led) : Prop where
  out : ∃ bs : List (List UInt8), μ' b = some (bs.map D.bytes) ∧ bs.length = cnt ∧ Bods m bs
  tape : TapeAt μ' t c
  chg : Chg t c μ μ'
theorem BodSt.step {μ μ1 μ2 : Led} {t c b : Addr} {cnt m : Nat} (x : BodSt μ t c b cnt m μ1) (hbt : b ≠ t) (hbc : b ≠ c) (T : TapeAt μ2 t c) (C : Chg t c μ1 μ2) : BodSt μ t c b cnt m μ2 := by
  obtain ⟨bs, h1, h2, h3⟩ := x.out
  exact ⟨⟨bs, C _ _ hbt hbc h1, h2, h3⟩, T, x.chg.trans C⟩
theorem BodSt.set {μ μ1 : Led} {t c b : Addr} {cnt m m' : Nat} {bs : List (List UInt8)} (x : BodSt μ t c b cnt m μ1) (hb : μ b = none) (hbt : b ≠ t) (hbc : b ≠ c) (h1 : μ1 b = some (bs.map D.bytes)) {i : Nat} {p : List UInt8} (hm : m ≤ m') (hp : p.length ≤ m' ∧ no14 p = true) :
    BodSt μ t c b cnt m' (upd μ1 b ((bs.map D.bytes).set i (.bytes p))) := by
  obtain ⟨bs', q1, q2, q3⟩ := x.out
  have e : bs = bs' := by
    rw [h1] at q1
    have := Option.some.inj q1
    have inj : ∀ (l l' : List (List UInt8)), l.map D.bytes = l'.map D.bytes → l = l' := by
      intro l
      induction l with
      | nil => intro l' h; cases l' with | nil => rfl | cons => cases h
      | cons a l ih => intro l' h; cases l' with | nil => cases h | cons b l' => rw [List.map_cons, List.map_cons] at h; injection h with h1 h2; injection h1 with h1; rw [h1, ih l' h2]
    exact inj _ _ this
  subst e
  refine ⟨⟨bs.set i p, by rw [upd_same, List.map_set], by rw [List.length_set, q2], fun y hy => ?_⟩, ?_, fun a ds n1 n2 q => ?_⟩
  · rcases List.mem_or_eq_of_mem_set hy with h | rfl
    · exact ⟨Nat.le_trans (q3 y h).1 hm, (q3 y h).2⟩
    · exact hp
  · obtain ⟨p1, p2, ns, r1, r2, r⟩ := x.tape.out
    exact ⟨p1, p2, ns, (upd_ne _ _ (Ne.symm hbt)).trans r1, (upd_ne _ _ (Ne.symm hbc)).trans r2, r⟩
  · have hab : a ≠ b := fun z => by rw [z, hb] at q; cases q
    exact (upd_ne _ _ hab).trans (x.chg a ds n1 n2 q)
noncomputable abbrev lbGs (aDr : Addr) : List (Str × D) := [("_law_draw", .ref aDr), ("range", .val (.type "range")), ("bytes", .val (.type "bytes")), ("str", .val (.type "str")), ("_law_behind", .tup (behL.map D.bytes)), ("_law_nearly", .tup (nearL.map D.bytes))]
noncomputable abbrev lbJ0 (μ : Led) (t c : Addr) (i : Nat) (μ' : Led) (ys : List D) : Prop := TapeAt μ' t c ∧ Chg t c μ μ' ∧ ∃ bs : List (List UInt8), ys = bs.map D.bytes ∧ bs.length = i ∧ Bods 10 bs
noncomputable abbrev lbJ (μ : Led) (t c b : Addr) (cnt m0 : Nat) (most gone : Int) (i : Nat) (ds : List (Option D)) (μ' : Led) : Prop :=
  ∃ o1 o2 o3 o4 o5 : Option D, ds = [some (.ref t), some (.int cnt), some (.int most), some (.int gone), o1, some (.ref b), o2, o3, o4, o5] ∧ BodSt μ t c b cnt (m0 + 20 * i) μ'
@[elab_as_elim] theorem lbJ.elim {μ : Led} {t c b : Addr} {cnt m0 : Nat} {most gone : Int} {i : Nat} {ds : List (Option D)} {μ' : Led} {P : List (Option D) → Prop} (h : lbJ μ t c b cnt m0 most gone i ds μ')
    (k : ∀ o1 o2 o3 o4 o5 : Option D, BodSt μ t c b cnt (m0 + 20 * i) μ' → P [some (.ref t), some (.int cnt), some (.int most), some (.int gone), o1, some (.ref b), o2, o3, o4, o5]) : P ds := by
  obtain ⟨o1, o2, o3, o4, o5, rfl, h⟩ := h
  exact k o1 o2 o3 o4 o5 h
theorem mn {cnt : Nat} {most : Int} (m0 : 0 ≤ most) (m1 : most < 15) : 0 ≤ (if 0 < cnt then most else 0) ∧ (if 0 < cnt then most else 0) < 15 ∧ (0 < (if 0 < cnt then most else 0) → 0 < cnt) := by
  split
  · exact ⟨m0, m1, fun _ => ‹_›⟩
  · exact ⟨by decide, by decide, fun h => absurd h (by decide)⟩
theorem in14 {M : Int} {i : Nat} (h0 : 0 ≤ M) (h1 : M < 15) (hi : i < (M - 0).toNat) : i < 14 ∧ 0 < M := by
  rw [Int.sub_zero, Int.lt_toNat] at hi
  exact ⟨Int.ofNat_lt.mp (Int.lt_of_lt_of_le hi (Int.le_of_lt_add_one (b := 14) h1)), Int.lt_of_le_of_lt (Int.natCast_nonneg i) hi⟩
theorem in3 {M : Int} {i : Nat} (h0 : 0 ≤ M) (h1 : M < 3) (hi : i < (M - 0).toNat) : 0 < M := by
  rw [Int.sub_zero, Int.lt_toNat] at hi
  exact Int.lt_of_le_of_lt (Int.natCast_nonneg i) hi
theorem rng15 {M : Int} (h0 : 0 ≤ M) (h1 : M < 15) : -(2 ^ 62) ≤ (0 : Int) ∧ (0 : Int) < 2 ^ 62 ∧ -(2 ^ 62) ≤ M ∧ M < 2 ^ 62 := ⟨by decide, by decide, Int.le_trans (by decide) h0, Int.lt_trans h1 (by decide)⟩
theorem le1 {a b c d m i : Nat} (h1 : a ≤ m + 20 * i) (h2 : b ≤ d) (hd : d ≤ 20) : a + b ≤ m + 20 * (i + 1) := Nat.le_trans (Nat.add_le_add h1 (Nat.le_trans h2 hd)) (Nat.le_of_eq (Nat.add_assoc m (20 * i) 20))
theorem up1 {m i : Nat} : m + 20 * i ≤ m + 20 * (i + 1) := Nat.add_le_add_left (Nat.mul_le_mul_left 20 (Nat.le_succ i)) m
theorem cnt4 {cnt : Nat} (c1 : (cnt : Int) < 5) : cnt ≤ 4 := Nat.le_of_lt_succ ((Int.ofNat_lt (n := cnt) (m := 5)).mp c1)
theorem pos_of {cnt : Nat} (h : 0 < cnt) : (0 : Int) < (cnt : Int) := Int.natCast_pos.mpr h
theorem spx {sp cnt : Nat} (h : (sp : Int) < (cnt : Int)) : sp < cnt := Int.ofNat_lt.mp h
theorem sp63 {sp cnt : Nat} (h : (sp : Int) < (cnt : Int)) (h4 : cnt ≤ 4) : (sp : Int) < 2 ^ 63 := Int.lt_trans (Int.lt_of_lt_of_le h (Int.ofNat_le.mpr h4)) (by decide)
theorem zadd (i : Nat) : (0 : Int) + (i : Nat) = (i : Nat) := Int.zero_add _
theorem lb_wc {W : GW} {n : Nat} {aDr a t c : Addr} (x : LibLb W aDr a) {μ : Led} {K : D → Led → Prop} (T : TapeAt μ t c)
    (k : ∀ b bs μ', μ b = none → b ≠ t → b ≠ c → μ' b = some (bs.map D.bytes) → bs.length ≤ 4 → Bods 1000 bs → TapeAt μ' t c → Chg t c μ μ' → K (.ref b) μ') : Wc W (n + 2) (.ref a) [.ref t] μ K := by
  refine x.f.wc ["count", "most", "gone", "turn", "bodies", "number", "drawn", "line", "spot"] lbNs
    (lbGs aDr)
    [some (.ref t), none, none, none, none, none, none, none, none, none] lb_scope (.cons x.drd (.cons x.range (.cons x.bytes (.cons x.str (.cons x.beh (.cons x.near .nil)))))) rfl fun e he => ?_
  have hord := x.ord
  refine Ws.cons (We.swapped (names := ["count", "most", "gone"]) (fun _ => rfl) (fun env h => (swapped_scope (h.trans he)).trans (by kernel_rfl)) ?_)
  repeat walk_at "my"
  refine call_fn x.dr.callee ?_
  repeat walk_at "my"
  refine draw_wc x.dr x.len (by decide) (by decide) T fun count μ1 c0 c1 T1 C1 => ?_
  repeat walk_at "my"
  refine call_fn x.dr.callee ?_
  repeat walk_at "my"
  refine draw_wc x.dr x.len (by decide) (by decide) T1 fun most μ2 m0 m1 T2 C2 => ?_
  repeat walk_at "my"
  refine call_fn x.dr.callee ?_
  repeat walk_at "my"
  refine draw_wc x.dr x.len (by decide) (by decide) T2 fun gone μ3 g0 g1 T3 C3 => ?_
  repeat walk_at "my"
  refine ⟨few (Nat.le_of_ble_eq_true rfl), rfl, ?_⟩
  show Wn _ [("gone" : Str), "most", "count"] [.int gone, .int most, .int count] _ _ _
  refine Wn.cons (by walk_at "put") (fun h => nomatch h) (Wn.cons (by walk_at "put") (fun h => nomatch h) (Wn.cons (by walk_at "put") (fun h => nomatch h) (Wn.nil ?_)))
  have C3 := C1.trans (C2.trans C3)
  clear T1 T2 C1 C2
  refine thenK_next (Ws.cons ?_)
  refine We.assign_comp ["tape", "turn"] ["tape"] [("_law_draw", .ref aDr)] [some (.ref t), none]
    (okCp_of (gl := ["_law_draw"]) (fr := ["tape"]) (by decide +kernel) rfl (.cons x.drd .nil) (fr_of lbNs he (by decide +kernel))) (Cap.some rfl (by repeat (first | exact Has.head | apply Has.tail)) (Cap.none Cap.nil)) (fun _ _ => rfl) (fun h => nomatch h) (fun env h => (swaps_scope (h.trans he)).trans (by kernel_rfl)) (Wit.range (fun _ => rfl) (fun _ => rfl) ?_)
  repeat walk_at "my"
  refine ⟨rfl, ?_⟩
  repeat walk_at "my"
  obtain ⟨cnt, rfl⟩ := Int.eq_ofNat_of_zero_le c0
  have hcnt : cnt ≤ 4 := cnt4 c1
  clear g0 g1
  refine ⟨0, cnt, .inr ⟨rfl, rfl⟩, rng15 c0 (Int.lt_trans c1 (by decide)), lbJ0 μ t c, ⟨T3, C3, [], rfl, rfl, fun _ h => nomatch h⟩, fun _ _ _ _ => trivial, ?_, ?_, ?_, ?_⟩
  · rintro i μ' ys ⟨-, -, bs, rfl, hl, -⟩; rw [List.length_map]; omega
  · rw [intsD_length]; exact few (by omega)
  · rintro e' he' i d μ4 ys hx ⟨T4, C4, bs, rfl, hl, hB⟩
    obtain ⟨hi, rfl⟩ := intsD_get _ _ hx
    repeat walk_at "my"
    refine call_fn x.dr.callee ?_
    repeat walk_at "my"
    refine draw_wc x.dr x.len (by decide) (by decide) T4 fun r μ5 r0 r1 T5 C5 => ?_
    refine sub_tupB startL r0 (by show r < (4 : Int); exact r1) (by decide) ?_
    refine ⟨T5, C4.trans C5, bs ++ [startL.getD r.toNat []], by rw [List.map_append]; rfl, by simp [hl], fun b hb => ?_⟩
    rcases List.mem_append.mp hb with h | h
    · exact hB b h
    · rw [List.mem_singleton.mp h]
      have : startL.getD r.toNat [] ∈ startL := getD_mem (tnl (n := 4) r0 r1)
      have all : ∀ b ∈ startL, b.length ≤ 10 ∧ no14 b = true := by decide
      exact all _ this
  rintro μ4 ys ⟨T4, C4, bs, rfl, hl, hB⟩ b hb
  have hbn := T4.ne hb
  have hμb : μ b = none := by
    cases q : μ b with
    | none => rfl
    | some ds => have := C4 b ds hbn.1 hbn.2 q; rw [hb] at this; cases this
  have S0 : BodSt μ t c b cnt 10 (upd μ4 b (bs.map D.bytes)) := ⟨⟨bs, upd_same _ _ _, by rw [hl, intsD_length]; omega, hB⟩, T4.ext (Ext.upd hb), C4.trans (Ext.upd hb).chg⟩
  generalize upd μ4 b (bs.map D.bytes) = μ6 at S0 ⊢
  clear hB hl hb T4 C4
  repeat walk_at "my"
  refine We.for_ (fun _ _ => rfl) (Wit.range (fun _ => rfl) (fun _ => rfl) ?_)
  repeat walk_at "my"
  refine ⟨rfl, Wl.cons (fun _ => rfl) (Wp.mono (K := fun d μ' => d = .int (if 0 < cnt then most else 0) ∧ μ6 = μ') ?_ ?_)⟩
  · repeat walk_at "my"
    refine ite_of (fun hc => ?_) fun hc => ?_
    · repeat walk_at "my"
      exact ⟨by rw [if_pos (by simpa using hc)], rfl⟩
    · repeat walk_at "my"
      exact ⟨by rw [if_neg (by simpa using hc)], rfl⟩
  rintro _ _ ⟨rfl, rfl⟩
  have hM0 := mn (cnt := cnt) m0 m1
  clear m0 m1 c0 c1
  generalize (if 0 < cnt then most else 0) = M at hM0 ⊢
  repeat walk_at "my"
  refine ⟨0, M, .inr ⟨rfl, rfl⟩, rng15 hM0.1 hM0.2.1, lbJ μ t c b cnt 10 most gone,
    ⟨none, none, none, none, none, rfl, S0⟩, fun _ _ _ _ => trivial, ?_, ?_⟩
  · intro i d ds1 μ7 hx hJ
    refine lbJ.elim hJ fun o1 o2 o3 o4 o5 S1 => ?_
    clear hJ
    obtain ⟨hi, rfl⟩ := intsD_get _ _ hx
    have hi2 := in14 hM0.1 hM0.2.1 hi
    have hcp : 0 < cnt := hM0.2.2 hi2.2
    have hi14 := hi2.1
    clear hi2 hi hx hM0
    have h20 : i < 20 := Nat.lt_of_lt_of_le hi14 (by decide)
    have nk := num_ok h20
    rw [zadd i]
    repeat walk_at "my"
    refine call_fn x.dr.callee ?_
    repeat walk_at "my"
    refine draw_wc x.dr x.len (by decide) (by decide) S1.tape fun dr μ8 r0 r1 T8 C8 => ?_
    have S2 := S1.step hbn.1 hbn.2 T8 C8
    clear S1 T8 C8
    repeat walk_at "my"
    refine ite_of (fun _ => ?_) fun _ => ?_
    · repeat walk_at "my"
      refine Wc.num h20 ?_
      have h14 := List.all_eq_true.mp num14 i (List.mem_range.mpr hi14)
      simp only [Bool.and_eq_true, decide_eq_true_eq] at h14
      repeat walk_at "my"
      refine ⟨h14.1, Nat.le_trans h14.2 (by decide), fun μ9 hext => ?_⟩
      have S3 := S2.step hbn.1 hbn.2 (S2.tape.ext hext) hext.chg
      clear S2 hext
      have ho2 : (octs (numS i)).length ≤ 2 := by unfold octs; simpa using h14.2
      refine W2.add_sz (Nat.le_refl 8) ho2 rfl fun _ => ?_
      repeat walk_at "my"
      refine W2.div_int (by decide) (by decide) ?_
      repeat walk_at "my"
      refine W2.mod_int (by decide) ?_
      have s0 : 0 ≤ (dr.fdiv 4).fmod 7 := Int.fmod_nonneg_of_pos _ (by decide)
      have s1 : (dr.fdiv 4).fmod 7 < 7 := Int.fmod_lt_of_pos _ (by decide)
      generalize (dr.fdiv 4).fmod 7 = bi at s0 s1 ⊢
      refine sub_tupB behL s0 (by show bi < (7 : Int); exact s1) (by decide) ?_
      have hbm : behL.getD bi.toNat [] ∈ behL := getD_mem (tnl (n := 7) s0 s1)
      generalize behL.getD bi.toNat [] = bh at hbm ⊢
      have hpc : ∀ el ∈ eolL, no14 (lead8 ++ octs (numS i) ++ bh ++ el) = true ∧ (lead8 ++ octs (numS i) ++ bh ++ el).length ≤ 20 := fun el hel => by
        have h1 := List.all_eq_true.mp pieces_ok i (List.mem_range.mpr hi14)
        have h2 := List.all_eq_true.mp (List.all_eq_true.mp h1 bh hbm) el hel
        simp only [Bool.and_eq_true, decide_eq_true_eq] at h2
        exact h2
      clear s0 s1
      have hle : (lead8 ++ octs (numS i) ++ bh).length ≤ 20 := Nat.le_trans (by rw [List.length_append (bs := [10])]; exact Nat.le_add_right _ _) (hpc [10] (by decide)).2
      have hle2 : bh.length ≤ 20 := Nat.le_trans (by rw [List.length_append]; exact Nat.le_add_left _ _) hle
      have hle1 : (lead8 ++ octs (numS i)).length ≤ 20 := Nat.le_trans (by rw [List.length_append (bs := bh)]; exact Nat.le_add_right _ _) hle
      refine W2.add_sz hle1 hle2 rfl fun _ => ?_
      repeat walk_at "my"
      refine W2.mod_int (by decide) ?_
      repeat walk_at "my"
      have hcz := pos_of hcp
      refine W2.mod_int (Int.ne_of_gt hcz) ?_
      have p0 : 0 ≤ (dr.fmod 4).fmod cnt := Int.fmod_nonneg_of_pos _ hcz
      have p1 : (dr.fmod 4).fmod cnt < cnt := Int.fmod_lt_of_pos _ hcz
      generalize (dr.fmod 4).fmod (cnt : Int) = sp at p0 p1 ⊢
      obtain ⟨sp, rfl⟩ := Int.eq_ofNat_of_zero_le p0
      obtain ⟨bs2, q1, q2, q3⟩ := S3.out
      have hsp : sp < bs2.length := q2 ▸ spx p1
      have hB := q3 bs2[sp] (List.getElem_mem _)
      repeat walk_at "my"
      refine sub_led q1 p0 (sp63 p1 hcnt) (d := .bytes bs2[sp]) (by simp [hsp]) ?_
      generalize bs2[sp] = old at hB ⊢
      repeat walk_at "my"
      have hBl : old.length ≤ 10 + 20 * 14 := Nat.le_trans hB.1 (Nat.add_le_add_left (Nat.mul_le_mul_left _ (Nat.le_of_lt hi14)) _)
      refine W2.add_sz hBl hle rfl fun z1 => ?_
      repeat walk_at "my"
      refine W2.div_int (by decide) (by decide) ?_
      have e0 : 0 ≤ dr.fdiv 28 := Int.fdiv_nonneg r0 (by decide)
      have e1 : dr.fdiv 28 < 3 := fdiv_lt (by decide) r1
      generalize dr.fdiv 28 = ei at e0 e1 ⊢
      refine sub_tupB eolL e0 (by show ei < (3 : Int); exact e1) (by decide) ?_
      have hem : eolL.getD ei.toNat [] ∈ eolL := getD_mem (tnl (n := 3) e0 e1)
      generalize eolL.getD ei.toNat [] = el at hem ⊢
      have hp := hpc el hem
      have hel : el.length ≤ 20 := Nat.le_trans (by rw [List.length_append (bs := el)]; exact Nat.le_add_left _ _) hp.2
      refine W2.add_sz z1 hel rfl fun _ => ?_
      clear e0 e1 z1 hel hBl
      repeat walk_at "my"
      refine set_led q1 (L := cnt) (by rw [List.length_map, q2]) p0 (sp63 p1 hcnt) p1 ?_
      repeat walk_at "my"
      refine ⟨_, _, _, _, _, rfl, ?_⟩
      rw [Int.toNat_natCast]
      refine S3.set hμb hbn.1 hbn.2 q1 up1 ⟨?_, ?_⟩
      · rw [List.append_assoc old, List.length_append]
        exact le1 (c := 0) hB.1 hp.2 (Nat.le_refl 20)
      · show no14 (old ++ (lead8 ++ octs (numS i) ++ bh) ++ el) = true
        rw [List.append_assoc]
        exact no14_append hB.2 hp.1 (by simp)
    · repeat walk_at "my"
      refine ⟨_, _, _, _, _, rfl, ?_⟩
      obtain ⟨bs2, q1, q2, q3⟩ := S2.out
      exact ⟨⟨bs2, q1, q2, q3.mono up1⟩, S2.tape, S2.chg⟩
  intro ds1 μ7 hJ
  refine lbJ.elim hJ fun o1 o2 o3 o4 o5 S1 => ?_
  clear hJ
  have S1 : BodSt μ t c b cnt 300 μ7 := by
    obtain ⟨bs2, q1, q2, q3⟩ := S1.out
    refine ⟨⟨bs2, q1, q2, q3.mono ?_⟩, S1.tape, S1.chg⟩
    rw [intsD_length]; omega
  refine thenK_next (Ws.cons ?_)
  refine We.for_ (fun _ _ => rfl) (Wit.range (fun _ => rfl) (fun _ => rfl) ?_)
  repeat walk_at "my"
  refine ⟨rfl, Wl.cons (fun _ => rfl) (Wp.mono (K := fun d μ' => ∃ M' : Int, d = .int M' ∧ 0 ≤ M' ∧ M' < 3 ∧ (0 < M' → 0 < cnt) ∧ BodSt μ t c b cnt 300 μ') ?_ ?_)⟩
  · repeat walk_at "my"
    refine ite_of (fun hc => ?_) fun hc => ?_
    · repeat walk_at "my"
      refine call_fn x.dr.callee ?_
      repeat walk_at "my"
      refine draw_wc x.dr x.len (by decide) (by decide) S1.tape fun dr μ8 r0 r1 T8 C8 => ?_
      exact ⟨dr, rfl, r0, r1, fun _ => by simpa using hc, S1.step hbn.1 hbn.2 T8 C8⟩
    · repeat walk_at "my"
      exact ⟨by decide, by decide, fun h => absurd h (by decide), S1⟩
  rintro _ μ8 ⟨M', rfl, n0, n1, n2, S2⟩
  clear S1
  repeat walk_at "my"
  refine ⟨0, M', .inr ⟨rfl, rfl⟩, rng15 n0 (Int.lt_trans n1 (by decide)), lbJ μ t c b cnt 300 most gone,
    ⟨o1, o2, o3, o4, o5, rfl, S2⟩, fun _ _ _ _ => trivial, ?_, ?_⟩
  · intro i d ds1 μ7 hx hJ
    refine lbJ.elim hJ fun o1 o2 o3 o4 o5 S1 => ?_
    clear hJ
    obtain ⟨hi, rfl⟩ := intsD_get _ _ hx
    have hcp : 0 < cnt := n2 (in3 n0 n1 hi)
    have hi3 : i < 3 := Nat.lt_of_lt_of_le hi (Int.toNat_le.mpr (by omega))
    clear hi hx n0 n1 n2 S2
    repeat walk_at "my"
    refine call_fn x.dr.callee ?_
    repeat walk_at "my"
    refine draw_wc x.dr x.len (by decide) (by decide) S1.tape fun dr μ8 r0 r1 T8 C8 => ?_
    have S3 := S1.step hbn.1 hbn.2 T8 C8
    clear S1 T8 C8
    repeat walk_at "my"
    refine W2.mod_int (by decide) ?_
    repeat walk_at "my"
    have hcz := pos_of hcp
    refine W2.mod_int (Int.ne_of_gt hcz) ?_
    have p0 : 0 ≤ (dr.fmod 4).fmod cnt := Int.fmod_nonneg_of_pos _ hcz
    have p1 : (dr.fmod 4).fmod cnt < cnt := Int.fmod_lt_of_pos _ hcz
    generalize (dr.fmod 4).fmod (cnt : Int) = sp at p0 p1 ⊢
    obtain ⟨sp, rfl⟩ := Int.eq_ofNat_of_zero_le p0
    obtain ⟨bs2, q1, q2, q3⟩ := S3.out
    have hsp : sp < bs2.length := q2 ▸ spx p1
    have hB := q3 bs2[sp] (List.getElem_mem _)
    repeat walk_at "my"
    refine sub_led q1 p0 (sp63 p1 hcnt) (d := .bytes bs2[sp]) (by simp [hsp]) ?_
    generalize bs2[sp] = old at hB ⊢
    repeat walk_at "my"
    refine W2.div_int (by decide) (by decide) ?_
    have e0 : 0 ≤ dr.fdiv 4 := Int.fdiv_nonneg r0 (by decide)
    have e1 : dr.fdiv 4 < 8 := fdiv_lt (by decide) r1
    generalize dr.fdiv 4 = ei at e0 e1 ⊢
    refine sub_tupB nearL e0 (by show ei < (8 : Int); exact e1) (by decide) ?_
    have hem : nearL.getD ei.toNat [] ∈ nearL := getD_mem (tnl (n := 8) e0 e1)
    generalize nearL.getD ei.toNat [] = el at hem ⊢
    have hp := List.all_eq_true.mp near_ok el hem
    simp only [Bool.and_eq_true, decide_eq_true_eq] at hp
    have hBl : old.length ≤ 300 + 20 * 3 := Nat.le_trans hB.1 (Nat.add_le_add_left (Nat.mul_le_mul_left _ (Nat.le_of_lt hi3)) _)
    have hl : el.length ≤ 20 := Nat.le_trans (by rw [List.length_append]; exact Nat.le_add_right _ _) hp.1.2
    refine W2.add_sz hBl hl rfl fun z1 => ?_
    repeat walk_at "my"
    refine W2.add_sz z1 (Nat.le_refl 1) rfl fun _ => ?_
    repeat walk_at "my"
    refine set_led q1 (L := cnt) (by rw [List.length_map, q2]) p0 (sp63 p1 hcnt) p1 ?_
    repeat walk_at "my"
    refine ⟨_, _, _, _, _, rfl, ?_⟩
    rw [Int.toNat_natCast]
    rw [List.append_assoc]
    refine S3.set hμb hbn.1 hbn.2 q1 up1 ⟨by rw [List.length_append]; exact le1 (c := 0) hB.1 hp.1.2 (Nat.le_refl 20), ?_⟩
    exact no14_append hB.2 hp.1.1 hp.2
  intro ds1 μ7 hJ
  refine lbJ.elim hJ fun o1 o2 o3 o4 o5 S1 => ?_
  clear hJ
  repeat walk_at "my"
  obtain ⟨bs2, q1, q2, q3⟩ := S1.out
  refine k b bs2 μ7 hμb hbn.1 hbn.2 q1 (by omega) (q3.mono ?_) S1.tape S1.chg
  rw [intsD_length]; omega
/-! ## The plain law of lines -/
theorem findB_none {b : List UInt8} {c : UInt8} {lo hi : Nat} (h : findB b c lo hi = none) : ∀ j, lo ≤ j → j < hi → b[j]? ≠ some c := fun j h1 h2 q => by
  unfold findB at h
  have := List.find?_eq_none.mp h j (List.mem_map.mpr ⟨j - lo, List.mem_range.mpr (Nat.sub_lt_sub_right h1 h2), Nat.sub_add_cancel h1⟩)
  simp [q] at this
theorem findB_min {b : List UInt8} {c : UInt8} {lo hi i : Nat} (h : findB b c lo hi = some i) : ∀ j, lo ≤ j → j < i → b[j]? ≠ some c := fun j h1 h2 q => by
  unfold findB at h
  rw [List.find?_map] at h
  obtain ⟨k, hk, rfl⟩ := Option.map_eq_some_iff.mp h
  obtain ⟨_, _, h3⟩ := List.find?_range_eq_some.mp hk
  have := h3 (j - lo) (by omega)
  simp only [Function.comp] at this
  rw [Nat.sub_add_cancel h1, q] at this
  simp at this
theorem splitB_append (c : UInt8) : ∀ (a r : List UInt8), splitB c (a ++ c :: r) = splitB c a ++ splitB c r
  | [], r => by simp [splitB]
  | x :: a, r => by
    have ih := splitB_append c a r
    obtain ⟨p, ps, e⟩ := splitB_ne c a
    rw [List.cons_append, splitB, ih, splitB, e]
    split <;> simp
theorem splitB_none (c : UInt8) : ∀ {a : List UInt8}, (∀ x ∈ a, x ≠ c) → splitB c a = [a]
  | [], _ => rfl
  | x :: a, h => by
    rw [splitB, if_neg (h x (.head _)), splitB_none c fun y hy => h y (.tail _ hy)]
theorem splitB_mem (c : UInt8) : ∀ (a : List UInt8), ∀ p ∈ splitB c a, ∀ x ∈ p, x ≠ c
  | [], p, hp, x, hx => by simp [splitB] at hp; subst hp; cases hx
  | y :: a, p, hp, x, hx => by
    have ih := splitB_mem c a
    obtain ⟨q, qs, e⟩ := splitB_ne c a
    unfold splitB at hp
    split at hp
    · rcases List.mem_cons.mp hp with rfl | hp
      · cases hx
      · exact ih p hp x hx
    · rename_i hyc
      rw [e] at hp ih
      rcases List.mem_cons.mp hp with rfl | hp
      · rcases List.mem_cons.mp hx with rfl | hx
        · exact hyc
        · exact ih q (.head _) x hx
      · exact ih p (.tail _ hp) x hx

noncomputable def chop (p : List UInt8) : List UInt8 := if p.getLast? = some 13 then p.dropLast else p
theorem chop_prefix (p : List UInt8) : chop p <+: p := by
  unfold chop
  split
  · exact List.dropLast_prefix p
  · exact List.prefix_refl p
noncomputable def spn : Nat → List (List UInt8) → List (Nat × Nat × Nat)
  | _, [] => []
  | off, [p] => if p = [] then [] else [(off, off + p.length, off + p.length)]
  | off, p :: q :: ps => (off, off + (chop p).length, off + p.length + 1) :: spn (off + p.length + 1) (q :: ps)
noncomputable def spnA : Nat → List (List UInt8) → List (Nat × Nat × Nat)
  | _, [] => []
  | off, p :: ps => (off, off + (chop p).length, off + p.length + 1) :: spnA (off + p.length + 1) ps
noncomputable def lfs (ps : List (List UInt8)) : List UInt8 := (ps.map (· ++ [10])).flatten
theorem spn_append {qs : List (List UInt8)} (hq : qs ≠ []) : ∀ (off : Nat) (ps : List (List UInt8)), spn off (ps ++ qs) = spnA off ps ++ spn (off + (lfs ps).length) qs
  | off, [] => rfl
  | off, p :: ps => by
    have ih := spn_append hq (off + p.length + 1) ps
    obtain ⟨q, r, e⟩ : ∃ q r, ps ++ qs = q :: r := by
      cases ps with
      | nil => cases qs with
        | nil => exact absurd rfl hq
        | cons q r => exact ⟨q, r, rfl⟩
      | cons q r => exact ⟨q, r ++ qs, rfl⟩
    rw [List.cons_append, e, spn, ← e, ih, spnA, List.cons_append]
    congr 3
    simp [lfs]
    omega
theorem lfs_split (a : List UInt8) : lfs (splitB 10 a) = a ++ [10] := by
  induction a with
  | nil => rfl
  | cons x a ih =>
    obtain ⟨p, ps, e⟩ := splitB_ne 10 a
    rw [splitB]
    split
    · rename_i h
      subst h
      show [] ++ [10] ++ lfs (splitB 10 a) = _
      rw [ih]; rfl
    · rw [e] at ih ⊢
      show (x :: p) ++ [10] ++ lfs ps = _
      have ih' : p ++ [10] ++ lfs ps = a ++ [10] := ih
      rw [List.cons_append, List.cons_append, List.cons_append, ih']

/-! ### a stretch of the octets -/
noncomputable def str_ (data : List UInt8) (a b : Nat) : List UInt8 := (data.drop a).take (b - a)
theorem str_get {data : List UInt8} {a b j : Nat} (hj : j < b - a) : (str_ data a b)[j]? = data[a + j]? := by
  unfold str_
  rw [List.getElem?_take, if_pos hj, List.getElem?_drop]
theorem str_len {data : List UInt8} {a b : Nat} (h : b ≤ data.length) : (str_ data a b).length = b - a := by
  unfold str_
  rw [List.length_take, List.length_drop]
  exact Nat.min_eq_left (Nat.sub_le_sub_right h a)
theorem lt_back {a b j : Nat} (h : j < b - a) : a + j < b := Nat.add_lt_of_lt_sub' h
theorem str_no {data : List UInt8} {a b : Nat} (hb : b ≤ data.length) (h : ∀ j, a ≤ j → j < b → data[j]? ≠ some 10) : ∀ x ∈ str_ data a b, x ≠ 10 := fun x hx e => by
  subst e
  obtain ⟨j, hj, he⟩ := List.getElem_of_mem hx
  have hj' : j < b - a := by rw [str_len hb] at hj; exact hj
  have g := str_get (data := data) hj'
  rw [List.getElem?_eq_getElem hj, he] at g
  exact h (a + j) (Nat.le_add_right _ _) (lt_back hj') g.symm
theorem str_cut {data : List UInt8} {a b c : Nat} (h1 : a ≤ b) (h2 : b ≤ c) : str_ data a c = str_ data a b ++ str_ data b c := by
  unfold str_
  have e1 : c - a = (b - a) + (c - b) := by rw [Nat.add_comm, Nat.sub_add_sub_cancel h2 h1]
  rw [e1, List.take_add, List.drop_drop, Nat.add_sub_of_le h1]
theorem str_head {data : List UInt8} {b c : Nat} {x : UInt8} (h : b < c) (hc : c ≤ data.length) (hx : data[b]? = some x) : str_ data b c = x :: str_ data (b + 1) c := by
  unfold str_
  have hb : b < data.length := Nat.lt_of_lt_of_le h hc
  have e : c - b = (c - (b + 1)) + 1 := by rw [Nat.sub_succ]; exact (Nat.succ_pred_eq_of_pos (Nat.sub_pos_of_lt h)).symm
  rw [List.getElem?_eq_getElem hb] at hx
  rw [List.drop_eq_getElem_cons hb, Option.some.inj hx, e, List.take_succ_cons]
theorem str_last {data : List UInt8} {a b : Nat} (h : a < b) (hb : b ≤ data.length) : (str_ data a b).getLast? = some (data.getD (b - 1) 0) := by
  have h1 : b - 1 < data.length := Nat.lt_of_lt_of_le (Nat.sub_lt (Nat.lt_of_le_of_lt (Nat.zero_le _) h) Nat.one_pos) hb
  have hj : b - a - 1 < b - a := Nat.sub_lt (Nat.sub_pos_of_lt h) Nat.one_pos
  have e : a + (b - a - 1) = b - 1 := add_sub_one h
  rw [List.getLast?_eq_getElem?, str_len hb, str_get hj, e, List.getElem?_eq_getElem h1, List.getD_eq_getElem?_getD, List.getElem?_eq_getElem h1]
  rfl
theorem str_chop {data : List UInt8} {a b : Nat} (h : a ≤ b) (hb : b ≤ data.length) : a + (chop (str_ data a b)).length = if b > a ∧ data.getD (b - 1) 0 = 13 then b - 1 else b := by
  have hl := str_len (a := a) hb
  by_cases hab : a < b
  · unfold chop
    rw [str_last hab hb]
    by_cases h13 : data.getD (b - 1) 0 = 13
    · rw [if_pos (congrArg some h13), if_pos ⟨hab, h13⟩, List.length_dropLast, hl]; exact add_sub_one hab
    · rw [if_neg (fun z => h13 (Option.some.inj z)), if_neg (fun z => h13 z.2), hl, Nat.add_sub_of_le h]
  · have e : a = b := Nat.le_antisymm h (Nat.not_lt.mp hab)
    subst e
    have e0 : str_ data a a = [] := by unfold str_; rw [Nat.sub_self, List.take_zero]
    rw [e0, if_neg fun z : a > a ∧ data.getD (a - 1) 0 = 13 => hab z.1]; rfl
theorem fuel_next {f begin feed en : Nat} (h1 : begin ≤ feed) (h2 : feed < en) (hf : en - begin ≤ f + 1) : en - (feed + 1) ≤ f := fuel_step h1 h2 hf
/-- the spans of the lines, by the parts between line feeds -/
theorem spans_split (data : List UInt8) (en : Nat) (hen : en ≤ data.length) (f : Nat) : ∀ begin : Nat, begin ≤ en → en - begin ≤ f → spansF data en f begin = spn begin (splitB 10 ((data.drop begin).take (en - begin))) := by
  induction f with
  | zero =>
    intro begin hb hf
    rw [Nat.le_zero.mp hf]
    rfl
  | succ f ih =>
    intro begin hb hf
    show _ = spn begin (splitB 10 (str_ data begin en))
    unfold spansF
    by_cases hlt : begin < en
    · rw [if_pos hlt]
      cases hq : findB data 10 begin en with
      | none =>
        have hne : str_ data begin en ≠ [] := fun e => by
          have := str_len (a := begin) hen
          rw [e] at this
          exact Nat.ne_of_gt (Nat.sub_pos_of_lt hlt) this.symm
        rw [splitB_none 10 (str_no hen (findB_none hq)), spn, if_neg hne, str_len hen, Nat.add_sub_of_le hb]
      | some feed =>
        obtain ⟨h1, h2, h3⟩ := findB_some hq
        have hfl : feed ≤ data.length := Nat.le_trans (Nat.le_of_lt h2) hen
        obtain ⟨q, qs, e⟩ := splitB_ne 10 (str_ data (feed + 1) en)
        have hi : spansF data en f (feed + 1) = spn (feed + 1) (splitB 10 (str_ data (feed + 1) en)) := ih (feed + 1) h2 (fuel_next h1 h2 hf)
        rw [str_cut h1 (Nat.le_of_lt h2), str_head h2 hen h3, splitB_append, splitB_none 10 (str_no hfl (findB_min hq)), e, List.singleton_append, spn, str_chop h1 hfl, str_len hfl, Nat.add_sub_of_le h1, ← e, ← hi]
    · have : begin = en := Nat.le_antisymm hb (Nat.not_lt.mp hlt)
      subst this
      rw [if_neg hlt]
      have e0 : str_ data begin begin = [] := by unfold str_; rw [Nat.sub_self, List.take_zero]
      rw [e0]; rfl
/-! ## The plain law of parts -/
noncomputable def subD (data : List UInt8) (en off : Nat) : List UInt8 := (data.drop off).take (en - off)
noncomputable def PS (data bnd : List UInt8) (en off : Nat) (bg : Option Nat) (bf : Nat) : List (Int × Int) := psR data bnd en (spn off (splitB 10 (subD data en off))) bg bf
theorem chop_cr (p : List UInt8) : chop (p ++ [13]) = p := by
  unfold chop
  rw [if_pos List.getLast?_concat, List.dropLast_concat]
theorem wayK_zero {line bnd : List UInt8} (h : ¬ ([45, 45] ++ bnd) <+: line) : wayK line bnd = 0 := by
  unfold wayK
  rw [if_neg]
  intro e
  rw [cut_to] at e
  exact h (e ▸ List.take_prefix _ _)
noncomputable def blank (w : List UInt8) : Prop := ∀ c ∈ w, c = 32 ∨ c = 9
theorem rstrip_blank {x w : List UInt8} (hw : blank w) : rstripB (x ++ w) [32, 9] = rstripB x [32, 9] := by
  unfold rstripB
  rw [List.reverse_append, List.dropWhile_append_of_pos]
  intro c hc
  rcases hw c (List.mem_reverse.mp hc) with rfl | rfl <;> decide
theorem wayK_next {bnd w : List UInt8} (hw : blank w) : wayK (([45, 45] ++ bnd) ++ w) bnd = 1 := by
  have hl : 2 + bnd.length = ([45, 45] ++ bnd).length := by simp; omega
  unfold wayK
  rw [cut_to, cut_from, hl, List.take_left, if_pos rfl, List.drop_left]
  have : rstripB w [32, 9] = [] := (rstrip_blank (x := []) hw).trans (by decide)
  rw [this, if_pos rfl]
theorem wayK_last {bnd w : List UInt8} (hw : blank w) : wayK (([45, 45] ++ bnd) ++ ([45, 45] ++ w)) bnd = 2 := by
  have hl : 2 + bnd.length = ([45, 45] ++ bnd).length := by simp; omega
  unfold wayK
  rw [cut_to, cut_from, hl, List.take_left, if_pos rfl, List.drop_left]
  have : rstripB ([45, 45] ++ w) [32, 9] = [45, 45] := (rstrip_blank hw).trans (by decide)
  rw [this, if_neg (by decide), if_pos rfl]
theorem splitB_snoc (c x : UInt8) (hx : x ≠ c) : ∀ a : List UInt8, ∃ ini p, splitB c a = ini ++ [p] ∧ splitB c (a ++ [x]) = ini ++ [p ++ [x]]
  | [] => ⟨[], [], rfl, by rw [List.nil_append]; simp [splitB, hx]⟩
  | y :: a => by
    obtain ⟨ini, p, h1, h2⟩ := splitB_snoc c x hx a
    rw [List.cons_append, splitB, splitB, h1, h2]
    split
    · exact ⟨[] :: ini, p, rfl, rfl⟩
    · cases ini with
      | nil => exact ⟨[], y :: p, rfl, rfl⟩
      | cons q qs => exact ⟨(y :: q) :: qs, p, rfl, rfl⟩
theorem splitB_lastp (a : List UInt8) : ∃ ini p, splitB 10 a = ini ++ [p] ∧ a = lfs ini ++ p := by
  obtain ⟨ini, p, h1, _⟩ := splitB_snoc 10 0 (by decide) a
  refine ⟨ini, p, h1, ?_⟩
  have := lfs_split a
  rw [h1] at this
  have e : lfs (ini ++ [p]) = lfs ini ++ p ++ [10] := by simp [lfs]
  rw [e] at this
  exact (List.append_cancel_right this).symm
noncomputable def lastOf : Nat → Nat → List (List UInt8) → Nat
  | _, bf, [] => bf
  | off, _, p :: ps => lastOf (off + p.length + 1) (off + (chop p).length) ps
theorem lastOf_snoc (p : List UInt8) : ∀ (ini : List (List UInt8)) (off bf : Nat), lastOf off bf (ini ++ [p]) = off + (lfs ini).length + (chop p).length
  | [], off, bf => by simp [lastOf, lfs]
  | q :: ini, off, bf => by
    rw [List.cons_append, lastOf, lastOf_snoc p ini]
    simp [lfs]; omega
theorem cut_pre {data p tail : List UInt8} {off k : Nat} (h : data.drop off = p ++ tail) (hk : k ≤ p.length) : cut data (some (off : Int)) (some ((off + k : Nat) : Int)) = p.take k := by
  rw [cut_mid, h, Nat.add_sub_cancel_left, List.take_append_of_le_length hk]
theorem chop_take (p : List UInt8) : p.take (chop p).length = chop p := by
  obtain ⟨t, ht⟩ := chop_prefix p
  have h : (chop p ++ t).take (chop p).length = chop p := List.take_left
  rw [ht] at h
  exact h
theorem drop_next {data p tail : List UInt8} {off : Nat} (h : data.drop off = p ++ tail) : data.drop (off + p.length) = tail := by
  rw [← List.drop_drop, h, List.drop_left]
theorem psR_quiet (data bnd : List UInt8) (en : Nat) (R : List (Nat × Nat × Nat)) (bg : Option Nat) : ∀ (ps : List (List UInt8)) (off bf : Nat) (tail : List UInt8), data.drop off = lfs ps ++ tail → (∀ p ∈ ps, wayK (chop p) bnd = 0) →
    psR data bnd en (spnA off ps ++ R) bg bf = psR data bnd en R bg (lastOf off bf ps)
  | [], _, _, _, _, _ => rfl
  | p :: ps, off, bf, tail, h, hw => by
    have h' : data.drop off = p ++ ([10] ++ (lfs ps ++ tail)) := by rw [h]; simp [lfs]
    have h2 : data.drop (off + p.length + 1) = lfs ps ++ tail := by
      have := drop_next h'
      rw [← List.drop_drop, this]; rfl
    rw [spnA, List.cons_append, psR, cut_pre h' (chop_prefix p).length_le, chop_take, hw p (.head _)]
    exact psR_quiet data bnd en R bg ps _ _ tail h2 fun q hq => hw q (.tail _ hq)
theorem sub_drop {data : List UInt8} {en off : Nat} {p r : List UInt8} (hen : en ≤ data.length) (h : subD data en off = p ++ r) : data.drop off = p ++ (r ++ data.drop (max off en)) ∧ subD data en (off + p.length) = r := by
  unfold subD at h ⊢
  constructor
  · have := List.take_append_drop (en - off) (data.drop off)
    rw [h, List.drop_drop] at this
    rw [← this, List.append_assoc]
    congr 3
    exact add_sub_max _ _
  · rw [← List.drop_drop, ← Nat.sub_sub, ← List.drop_take, h, List.drop_left]
theorem PS_split {data bnd : List UInt8} {en off : Nat} {bg : Option Nat} {bf : Nat} {X rest : List UInt8} (hen : en ≤ data.length) (h : subD data en off = X ++ 10 :: rest) :
    PS data bnd en off bg bf = psR data bnd en (spnA off (splitB 10 X) ++ spn (off + X.length + 1) (splitB 10 rest)) bg bf ∧ subD data en (off + X.length + 1) = rest ∧ ∃ tail, data.drop off = lfs (splitB 10 X) ++ tail := by
  obtain ⟨q, qs, e⟩ := splitB_ne 10 rest
  have h' : subD data en off = (X ++ [10]) ++ rest := by rw [h]; simp
  obtain ⟨h1, h2⟩ := sub_drop hen h'
  refine ⟨?_, by rw [← h2]; congr 1; simp; omega, _, by rw [lfs_split]; exact h1⟩
  unfold PS
  rw [h, splitB_append, spn_append (by rw [e]; simp), lfs_split]
  congr 3
  simp; omega
/-- a body and the end of its last line -/
theorem PS_quiet {data bnd : List UInt8} {en off : Nat} {bg : Option Nat} {bf : Nat} {body e rest : List UInt8} (hen : en ≤ data.length) (h : subD data en off = body ++ e ++ [10] ++ rest) (he : e = [13] ∨ (e = [] ∧ body.getLast? ≠ some 13))
    (hn : ∀ p ∈ splitB 10 body, ¬ ([45, 45] ++ bnd) <+: p) : PS data bnd en off bg bf = PS data bnd en (off + (body ++ e ++ [10]).length) bg (off + body.length) := by
  obtain ⟨h1, h2, tail, h3⟩ := PS_split (bnd := bnd) (bg := bg) (bf := bf) (X := body ++ e) (rest := rest) hen (by rw [h]; simp)
  have hw : (∀ p ∈ splitB 10 (body ++ e), wayK (chop p) bnd = 0) ∧ lastOf off bf (splitB 10 (body ++ e)) = off + body.length := by
    rcases he with rfl | ⟨rfl, hl⟩
    · obtain ⟨ini, p, q1, q2⟩ := splitB_snoc 10 13 (by decide) body
      have hch : chop (p ++ [13]) = p := by simp [chop]
      constructor
      · intro r hr
        rw [q2] at hr
        refine wayK_zero fun hp => ?_
        rcases List.mem_append.mp hr with hr | hr
        · exact hn r (by rw [q1]; exact List.mem_append_left _ hr) (hp.trans (chop_prefix r))
        · rw [List.mem_singleton.mp hr, hch] at hp
          exact hn p (by rw [q1]; simp) hp
      · rw [q2, lastOf_snoc, hch]
        have := lfs_split body
        rw [q1] at this
        have := congrArg List.length this
        simp [lfs] at this ⊢
        omega
    · rw [List.append_nil]
      obtain ⟨ini, p, q1, q2⟩ := splitB_lastp body
      have hch : chop p = p := by
        unfold chop
        rw [if_neg]
        intro z
        refine hl ?_
        rw [q2, List.getLast?_append, z]; rfl
      constructor
      · intro r hr
        exact wayK_zero fun hp => hn r hr (hp.trans (chop_prefix r))
      · rw [q1, lastOf_snoc, hch]
        have := congrArg List.length q2
        simp at this
        omega
  rw [h1, psR_quiet data bnd en _ bg _ _ bf tail h3 hw.1, hw.2]
  unfold PS
  have hL : off + (body ++ e ++ [10]).length = off + (body ++ e).length + 1 := by simp; omega
  rw [hL, h2]
/-- a line of the boundary -/
theorem PS_next {data bnd : List UInt8} {en off : Nat} {bg : Option Nat} {bf : Nat} {w e rest : List UInt8} (hen : en ≤ data.length) (h : subD data en off = ([45, 45] ++ bnd) ++ w ++ e ++ [10] ++ rest) (he : e = [13] ∨ e = [])
    (hb : ∀ x ∈ bnd, x ≠ 10 ∧ x ≠ 13) (hw : blank w) : PS data bnd en off bg bf = endP bg bf ++ PS data bnd en (off + (([45, 45] ++ bnd) ++ w ++ e ++ [10]).length) (some (off + (([45, 45] ++ bnd) ++ w ++ e ++ [10]).length)) (off + (([45, 45] ++ bnd) ++ w).length) := by
  obtain ⟨h1, h2, tail, h3⟩ := PS_split (bnd := bnd) (bg := bg) (bf := bf) (X := ([45, 45] ++ bnd) ++ w ++ e) (rest := rest) hen (by rw [h]; simp)
  have hmem : ∀ x ∈ ([45, 45] ++ bnd) ++ w, x ≠ 10 ∧ x ≠ 13 := by
    intro x hx
    rcases List.mem_append.mp hx with hx | hx
    · rcases List.mem_append.mp hx with hx | hx
      · simp at hx; subst hx; decide
      · exact hb x hx
    · rcases hw x hx with rfl | rfl <;> decide
  have hno : ∀ x ∈ ([45, 45] ++ bnd) ++ w ++ e, x ≠ 10 := by
    intro x hx
    rcases List.mem_append.mp hx with hx | hx
    · exact (hmem x hx).1
    · rcases he with rfl | rfl
      · simp at hx; subst hx; decide
      · cases hx
  have hch : chop (([45, 45] ++ bnd) ++ w ++ e) = ([45, 45] ++ bnd) ++ w := by
    rcases he with rfl | rfl
    · exact chop_cr _
    · rw [List.append_nil]
      unfold chop
      rw [if_neg]
      intro z
      exact (hmem 13 (List.mem_of_getLast? z)).2 rfl
  generalize hX : ([45, 45] ++ bnd) ++ w ++ e = X at h1 h2 h3 hno hch
  rw [splitB_none 10 hno] at h1 h3
  have h3' : data.drop off = X ++ ([10] ++ tail) := by rw [h3]; simp [lfs]
  have hL : off + (X ++ [10]).length = off + X.length + 1 := by simp; omega
  rw [h1, hL]
  show psR data bnd en ((off, off + (chop X).length, off + X.length + 1) :: spn (off + X.length + 1) (splitB 10 rest)) bg bf = _
  rw [psR, cut_pre h3' (chop_prefix X).length_le, chop_take, hch, wayK_next hw]
  unfold PS
  rw [h2]
  rfl
/-- the last line of the boundary, with a line feed or without -/
theorem PS_last {data bnd : List UInt8} {en off : Nat} {bg : Option Nat} {bf : Nat} {w e rest : List UInt8} (hen : en ≤ data.length) (h : subD data en off = ([45, 45] ++ bnd) ++ ([45, 45] ++ w) ++ e ++ [10] ++ rest) (he : e = [13] ∨ e = [])
    (hb : ∀ x ∈ bnd, x ≠ 10 ∧ x ≠ 13) (hw : blank w) : PS data bnd en off bg bf = endP bg bf := by
  obtain ⟨h1, h2, tail, h3⟩ := PS_split (bnd := bnd) (bg := bg) (bf := bf) (X := ([45, 45] ++ bnd) ++ ([45, 45] ++ w) ++ e) (rest := rest) hen (by rw [h]; simp)
  have hmem : ∀ x ∈ ([45, 45] ++ bnd) ++ ([45, 45] ++ w), x ≠ 10 ∧ x ≠ 13 := by
    intro x hx
    rcases List.mem_append.mp hx with hx | hx
    · rcases List.mem_append.mp hx with hx | hx
      · simp at hx; subst hx; decide
      · exact hb x hx
    · rcases List.mem_append.mp hx with hx | hx
      · simp at hx; subst hx; decide
      · rcases hw x hx with rfl | rfl <;> decide
  have hno : ∀ x ∈ ([45, 45] ++ bnd) ++ ([45, 45] ++ w) ++ e, x ≠ 10 := by
    intro x hx
    rcases List.mem_append.mp hx with hx | hx
    · exact (hmem x hx).1
    · rcases he with rfl | rfl
      · simp at hx; subst hx; decide
      · cases hx
  have hch : chop (([45, 45] ++ bnd) ++ ([45, 45] ++ w) ++ e) = ([45, 45] ++ bnd) ++ ([45, 45] ++ w) := by
    rcases he with rfl | rfl
    · exact chop_cr _
    · rw [List.append_nil]
      unfold chop
      rw [if_neg]
      intro z
      exact (hmem 13 (List.mem_of_getLast? z)).2 rfl
  generalize hX : ([45, 45] ++ bnd) ++ ([45, 45] ++ w) ++ e = X at h1 h2 h3 hno hch
  rw [splitB_none 10 hno] at h1 h3
  have h3' : data.drop off = X ++ ([10] ++ tail) := by rw [h3]; simp [lfs]
  rw [h1]
  show psR data bnd en ((off, off + (chop X).length, off + X.length + 1) :: spn (off + X.length + 1) (splitB 10 rest)) bg bf = _
  rw [psR, cut_pre h3' (chop_prefix X).length_le, chop_take, hch, wayK_last hw]
  rfl
theorem PS_lastbare {data bnd : List UInt8} {en off : Nat} {bg : Option Nat} {bf : Nat} {w : List UInt8} (hen : en ≤ data.length) (h : subD data en off = ([45, 45] ++ bnd) ++ ([45, 45] ++ w))
    (hb : ∀ x ∈ bnd, x ≠ 10 ∧ x ≠ 13) (hw : blank w) : PS data bnd en off bg bf = endP bg bf := by
  have hno : ∀ x ∈ ([45, 45] ++ bnd) ++ ([45, 45] ++ w), x ≠ 10 := by
    intro x hx
    rcases List.mem_append.mp hx with hx | hx
    · rcases List.mem_append.mp hx with hx | hx
      · simp at hx; subst hx; decide
      · exact (hb x hx).1
    · rcases List.mem_append.mp hx with hx | hx
      · simp at hx; subst hx; decide
      · rcases hw x hx with rfl | rfl <;> decide
  have h3 := (sub_drop (p := ([45, 45] ++ bnd) ++ ([45, 45] ++ w)) (r := []) hen (by rw [h]; simp)).1
  unfold PS
  rw [h, splitB_none 10 hno, spn, if_neg (by simp), psR, cut_pre h3 (Nat.le_refl _), List.take_length, wayK_last hw]
  rfl
theorem PS_end {data bnd : List UInt8} {en off : Nat} {bg : Option Nat} {bf : Nat} (h : subD data en off = []) : PS data bnd en off bg bf = psR data bnd en [] bg bf := by
  unfold PS
  rw [h]; rfl
structure Part where
  w : List UInt8
  e : List UInt8
  bd : Option (List UInt8 × List UInt8)
noncomputable def Part.body (p : Part) : List UInt8 := match p.bd with
  | none => []
  | some (b, e) => b ++ e
noncomputable def Part.bl (p : Part) : Nat := match p.bd with
  | none => 0
  | some (b, _) => b.length
noncomputable def partB (m : List UInt8) (p : Part) : List UInt8 := (m ++ p.w ++ p.e) ++ p.body
noncomputable def isEol (e : List UInt8) : Prop := e = [13, 10] ∨ e = [10]
structure PartOk (bnd : List UInt8) (p : Part) : Prop where
  w : blank p.w
  e : isEol p.e
  bd : ∀ b e, p.bd = some (b, e) → (e = [13, 10] ∨ (e = [10] ∧ b.getLast? ≠ some 13)) ∧ ∀ q ∈ splitB 10 b, ¬ ([45, 45] ++ bnd) <+: q
noncomputable def duesR (m : List UInt8) : Nat → List Part → List (Int × Int)
  | _, [] => []
  | off, p :: ps => (((off + (m ++ p.w ++ p.e).length : Nat) : Int), ((off + (m ++ p.w ++ p.e).length + p.bl : Nat) : Int)) :: duesR m (off + (partB m p).length) ps
noncomputable def flatP (m : List UInt8) (ps : List Part) : List UInt8 := (ps.map (partB m)).flatten
theorem isEol.cut {e : List UInt8} (h : isEol e) : ∃ e', e = e' ++ [10] ∧ (e' = [13] ∨ e' = []) := by
  rcases h with rfl | rfl
  · exact ⟨[13], rfl, .inl rfl⟩
  · exact ⟨[], rfl, .inr rfl⟩
theorem parts_run {data bnd : List UInt8} {en : Nat} (hen : en ≤ data.length) (hb : ∀ x ∈ bnd, x ≠ 10 ∧ x ≠ 13) {R : List UInt8} : ∀ (ps : List Part) (off : Nat) (bg : Option Nat) (bf : Nat), (∀ p ∈ ps, PartOk bnd p) →
    subD data en off = flatP ([45, 45] ++ bnd) ps ++ R → ∃ acc bg' bf', PS data bnd en off bg bf = acc ++ PS data bnd en (off + (flatP ([45, 45] ++ bnd) ps).length) bg' bf' ∧ acc ++ endP bg' bf' = endP bg bf ++ duesR ([45, 45] ++ bnd) off ps ∧
      subD data en (off + (flatP ([45, 45] ++ bnd) ps).length) = R ∧ (bg' = none → acc = []) := by
  intro ps
  induction ps with
  | nil => exact fun off bg bf _ h => ⟨[], bg, bf, by simp [flatP], by simp [duesR], by simpa [flatP] using h, fun _ => rfl⟩
  | cons p ps ih =>
    intro off bg bf hp h
    obtain ⟨pw, pe, pb⟩ := hp p (.head _)
    obtain ⟨e', he', hee⟩ := pe.cut
    have hfl : flatP ([45, 45] ++ bnd) (p :: ps) = partB ([45, 45] ++ bnd) p ++ flatP ([45, 45] ++ bnd) ps := rfl
    have h1 : subD data en off = ([45, 45] ++ bnd) ++ p.w ++ e' ++ [10] ++ (p.body ++ (flatP ([45, 45] ++ bnd) ps ++ R)) := by
      rw [h, hfl, partB, he']; simp
    have hn := PS_next (bg := bg) (bf := bf) hen h1 hee hb pw
    have hsub := (sub_drop (p := ([45, 45] ++ bnd) ++ p.w ++ e' ++ [10]) (r := p.body ++ (flatP ([45, 45] ++ bnd) ps ++ R)) hen h1).2
    have hlen : (([45, 45] ++ bnd) ++ p.w ++ e' ++ [10]).length = (([45, 45] ++ bnd) ++ p.w ++ p.e).length := by rw [he']; simp
    rw [hlen] at hn hsub
    generalize hL : (([45, 45] ++ bnd) ++ p.w ++ p.e).length = L at hn hsub
    have hwl : (([45, 45] ++ bnd) ++ p.w).length ≤ L := by rw [← hL]; simp
    -- what stands in the part
    obtain ⟨bf2, q1, q2⟩ : ∃ bf2, PS data bnd en (off + L) (some (off + L)) (off + (([45, 45] ++ bnd) ++ p.w).length) = PS data bnd en (off + L + p.body.length) (some (off + L)) bf2 ∧ max (off + L) bf2 = off + L + p.bl := by
      cases hbd : p.bd with
      | none =>
        have hb0 : p.body = [] := by unfold Part.body; rw [hbd]
        have hl0 : p.bl = 0 := by unfold Part.bl; rw [hbd]
        exact ⟨off + (([45, 45] ++ bnd) ++ p.w).length, by rw [hb0]; rfl, by rw [hl0]; exact Nat.max_eq_left (Nat.add_le_add_left hwl off)⟩
      | some be =>
        obtain ⟨b, e2⟩ := be
        obtain ⟨h2, h3⟩ := pb b e2 hbd
        have hb0 : p.body = b ++ e2 := by unfold Part.body; rw [hbd]
        have hl0 : p.bl = b.length := by unfold Part.bl; rw [hbd]
        obtain ⟨e3, he3, hee3⟩ : ∃ e3, e2 = e3 ++ [10] ∧ (e3 = [13] ∨ (e3 = [] ∧ b.getLast? ≠ some 13)) := by
          rcases h2 with rfl | ⟨rfl, hl⟩
          · exact ⟨[13], rfl, .inl rfl⟩
          · exact ⟨[], rfl, .inr ⟨rfl, hl⟩⟩
        have h4 : subD data en (off + L) = b ++ e3 ++ [10] ++ (flatP ([45, 45] ++ bnd) ps ++ R) := by rw [hsub, hb0, he3]; simp
        refine ⟨off + L + b.length, ?_, by rw [hl0]; exact Nat.max_eq_right (Nat.le_add_right _ _)⟩
        rw [PS_quiet hen h4 hee3 h3, hb0, he3]
        congr 1
        simp
    have hsub2 : subD data en (off + L + p.body.length) = flatP ([45, 45] ++ bnd) ps ++ R := (sub_drop hen hsub).2
    obtain ⟨acc, bg', bf', r1, r2, r3, r4⟩ := ih (off + L + p.body.length) (some (off + L)) bf2 (fun q hq => hp q (.tail _ hq)) hsub2
    have hoff : off + (flatP ([45, 45] ++ bnd) (p :: ps)).length = off + L + p.body.length + (flatP ([45, 45] ++ bnd) ps).length := by
      rw [hfl, partB, List.length_append, List.length_append, hL]; simp only [Nat.add_assoc]
    have hoff2 : off + (partB ([45, 45] ++ bnd) p).length = off + L + p.body.length := by rw [partB, List.length_append, hL, Nat.add_assoc]
    refine ⟨endP bg bf ++ acc, bg', bf', ?_, ?_, by rw [hoff]; exact r3, fun z => ?_⟩
    · rw [hn, q1, r1, hoff, List.append_assoc]
    · rw [List.append_assoc, r2, duesR, hL, hoff2]
      congr 1
      show [(((off + L : Nat) : Int), ((max (off + L) bf2 : Nat) : Int))] ++ duesR ([45, 45] ++ bnd) (off + L + p.body.length) ps = _
      rw [q2]; rfl
    · subst z
      rw [r4 rfl] at r2
      simp [endP] at r2
theorem duesR_shift (m : List UInt8) (F : Nat) : ∀ (ps : List Part) (off : Nat), duesR m (F + off) ps = (duesR m off ps).map fun d => ((F : Int) + d.1, (F : Int) + d.2)
  | [], _ => rfl
  | p :: ps, off => by
    have := duesR_shift m F ps (off + (partB m p).length)
    rw [duesR, duesR, List.map_cons, ← this, Nat.add_assoc]
    congr 2
    · push_cast; omega
    · push_cast; omega
noncomputable def Gaps (g : Int) (l : List (Int × Int)) : Prop := ∀ i x y, l[i]? = some x → l[i + 1]? = some y → g ≤ y.1 - x.2
theorem duesR_ge {bnd : List UInt8} : ∀ (ps : List Part) (off : Nat), (∀ p ∈ ps, PartOk bnd p) → Gaps (3 + bnd.length) (duesR ([45, 45] ++ bnd) off ps) ∧ ∀ y, (duesR ([45, 45] ++ bnd) off ps)[0]? = some y → (off : Int) + (3 + bnd.length) ≤ y.1 := by
  intro ps
  induction ps with
  | nil => exact fun _ _ => ⟨fun _ _ _ h => by simp [duesR] at h, fun _ h => by simp [duesR] at h⟩
  | cons p ps ih =>
    intro off hp
    obtain ⟨ih1, ih2⟩ := ih (off + (partB ([45, 45] ++ bnd) p).length) fun q hq => hp q (.tail _ hq)
    have hok := hp p (.head _)
    have hel : 1 ≤ p.e.length := by rcases hok.e with h | h <;> rw [h] <;> simp
    have hbl : p.bl ≤ p.body.length := by
      unfold Part.bl Part.body
      split <;> simp
    constructor
    · intro i x y hx hy
      cases i with
      | zero =>
        rw [duesR] at hx hy
        simp only [List.getElem?_cons_zero, Option.some.injEq] at hx
        rw [List.getElem?_cons_succ] at hy
        have := ih2 y hy
        subst hx
        unfold partB at this
        simp only [List.length_append] at this ⊢
        push_cast at this ⊢
        omega
      | succ i =>
        rw [duesR, List.getElem?_cons_succ] at hx hy
        exact ih1 i x y hx hy
    · intro y hy
      rw [duesR] at hy
      simp only [List.getElem?_cons_zero, Option.some.injEq] at hy
      subst hy
      simp only [List.length_append, List.length_cons, List.length_nil]
      push_cast
      omega
theorem Gaps.last {g : Int} {acc : List (Int × Int)} {b e e' : Int} (h : Gaps g (acc ++ [(b, e)])) : Gaps g (acc ++ [(b, e')]) := fun i x y hx hy => by
  have hi : i + 1 < (acc ++ [(b, e')]).length := (List.getElem?_eq_some_iff.mp hy).1
  have hi' : i < acc.length := by simp at hi; omega
  rw [List.getElem?_append_left hi'] at hx
  have hx' : (acc ++ [(b, e)])[i]? = some x := by rw [List.getElem?_append_left hi']; exact hx
  by_cases hl : i + 1 < acc.length
  · rw [List.getElem?_append_left hl] at hy
    exact h i x y hx' (by rw [List.getElem?_append_left hl]; exact hy)
  · have e1 : i + 1 = acc.length := by omega
    rw [e1, List.getElem?_append_right (Nat.le_refl _), Nat.sub_self] at hy
    simp at hy
    subst hy
    have := h i x (b, e) hx' (by rw [e1, List.getElem?_append_right (Nat.le_refl _), Nat.sub_self]; rfl)
    exact this
/-! ## The plain law of what is joined -/
theorem PS_of {data bnd : List UInt8} {a en : Nat} (h : a ≤ en) (h2 : en ≤ data.length) : psR data bnd en (spansF data en (en - a) a) none a = PS data bnd en a none a := by
  unfold PS subD
  rw [spans_split data en h2 (en - a) a h (Nat.le_refl _)]
theorem bare_facts : ((List.range 20).all fun j => (bare j).all fun x => x != 10 && x != 13) = true := by decide +kernel
theorem bare_ok {j : Nat} (h : j < 20) : ∀ x ∈ bare j, x ≠ 10 ∧ x ≠ 13 := fun x hx => by
  have := List.all_eq_true.mp (List.all_eq_true.mp bare_facts j (List.mem_range.mpr h)) x hx
  simpa using this
noncomputable def partOf (b : List UInt8) : Part := ⟨[], [13, 10], some (b, [13, 10])⟩
theorem partOf_B (m b : List UInt8) : partB m (partOf b) = pieceB m b := by
  simp [partB, partOf, Part.body, pieceB]
theorem flatP_of (m : List UInt8) (bodies : List (List UInt8)) : flatP m (bodies.map partOf) = (bodies.map (pieceB m)).flatten := by
  unfold flatP
  rw [List.map_map]
  congr 2
  funext b
  exact partOf_B m b
theorem partOf_ok {bnd b : List UInt8} (h : ∀ q ∈ splitB 10 b, ¬ ([45, 45] ++ bnd) <+: q) : PartOk bnd (partOf b) := by
  refine ⟨(fun c hc => nomatch hc), .inl rfl, fun b' e hq => ?_⟩
  cases hq
  exact ⟨.inl rfl, h⟩
theorem joined_law {bnd : List UInt8} {bodies : List (List UInt8)} (hb : ∀ x ∈ bnd, x ≠ 10 ∧ x ≠ 13) (h : ∀ b ∈ bodies, ∀ q ∈ splitB 10 b, ¬ ([45, 45] ++ bnd) <+: q) :
    psR (joinedB bodies ([45, 45] ++ bnd)) bnd (joinedB bodies ([45, 45] ++ bnd)).length (spansF (joinedB bodies ([45, 45] ++ bnd)) (joinedB bodies ([45, 45] ++ bnd)).length ((joinedB bodies ([45, 45] ++ bnd)).length - 0) 0) none 0 = duesR ([45, 45] ++ bnd) 0 (bodies.map partOf) := by
  rw [PS_of (Nat.zero_le _) (Nat.le_refl _)]
  have hsub : subD (joinedB bodies ([45, 45] ++ bnd)) (joinedB bodies ([45, 45] ++ bnd)).length 0 = flatP ([45, 45] ++ bnd) (bodies.map partOf) ++ (([45, 45] ++ bnd) ++ ([45, 45] ++ []) ++ [13] ++ [10] ++ []) := by
    unfold subD
    rw [List.drop_zero, Nat.sub_zero, List.take_length, flatP_of]
    simp [joinedB]
  obtain ⟨acc, bg', bf', r1, r2, r3, _⟩ := parts_run (Nat.le_refl _) hb (bodies.map partOf) 0 none 0 (fun p hp => by
    obtain ⟨b, hb', rfl⟩ := List.mem_map.mp hp
    exact partOf_ok (h b hb')) hsub
  rw [r1, PS_last (w := []) (e := [13]) (rest := []) (Nat.le_refl _) r3 (.inl rfl) hb (fun c hc => nomatch hc), r2]
  rfl

/-! ## The plain law of what stands roughly -/
theorem flatP_snoc (m : List UInt8) (ps : List Part) (p : Part) : flatP m (ps ++ [p]) = flatP m ps ++ partB m p := by simp [flatP]
theorem duesR_snoc (m : List UInt8) (p : Part) : ∀ (ps : List Part) (off : Nat), duesR m off (ps ++ [p]) = duesR m off ps ++ duesR m (off + (flatP m ps).length) [p]
  | [], off => by simp [flatP, duesR]
  | q :: ps, off => by
    rw [List.cons_append, duesR, duesR_snoc m p ps, duesR]
    have e : off + (partB m q).length + (flatP m ps).length = off + (flatP m (q :: ps)).length := by simp [flatP]; omega
    rw [e]
    rfl
noncomputable def setLast (l : List (Int × Int)) (e : Int) : List (Int × Int) := l.set (l.length - 1) ((l.getD (l.length - 1) (0, 0)).1, e)
theorem setLast_snoc (acc : List (Int × Int)) (b x e : Int) : setLast (acc ++ [(b, x)]) e = acc ++ [(b, e)] := by
  unfold setLast
  simp
noncomputable def leadOk (bnd l : List UInt8) : Prop := l = [] ∨ ∃ b e, l = b ++ e ++ [10] ∧ (e = [13] ∨ (e = [] ∧ b.getLast? ≠ some 13)) ∧ ∀ p ∈ splitB 10 b, ¬ ([45, 45] ++ bnd) <+: p
/-- the ends: nothing, or the last line of the boundary -/
inductive EndOk (bnd : List UInt8) : Bool → List UInt8 → Prop
  | none : EndOk bnd true []
  | line (w e rest : List UInt8) (hw : blank w) (he : e = [13] ∨ e = []) : EndOk bnd false (([45, 45] ++ bnd) ++ ([45, 45] ++ w) ++ e ++ [10] ++ rest)
  | bare (w : List UInt8) (hw : blank w) : EndOk bnd false (([45, 45] ++ bnd) ++ ([45, 45] ++ w))
noncomputable def dueF (o : Bool) (n : Nat) (l : List (Int × Int)) : List (Int × Int) := if o = true ∧ l ≠ [] then setLast l n else l
theorem Gaps.map {g F : Int} {l : List (Int × Int)} (h : Gaps g l) : Gaps g (l.map fun d => (F + d.1, F + d.2)) := fun i x y hx hy => by
  rw [List.getElem?_map] at hx hy
  cases q1 : l[i]? with
  | none => rw [q1] at hx; cases hx
  | some x' => cases q2 : l[i + 1]? with
    | none => rw [q2] at hy; cases hy
    | some y' =>
      rw [q1] at hx; rw [q2] at hy
      cases hx; cases hy
      have := h i x' y' q1 q2
      show g ≤ (F + y'.1) - (F + x'.2)
      omega
theorem rough_law {bnd front lead tail back : List UInt8} {ps : List Part} {o : Bool} (hb : ∀ x ∈ bnd, x ≠ 10 ∧ x ≠ 13) (hl : leadOk bnd lead) (hp : ∀ p ∈ ps, PartOk bnd p) (he : EndOk bnd o tail)
    {data full : List UInt8} (hd : data = lead ++ flatP ([45, 45] ++ bnd) ps ++ tail) (hf : full = front ++ data ++ back) :
    psR full bnd (front.length + data.length) (spansF full (front.length + data.length) (front.length + data.length - front.length) front.length) none front.length =
      (dueF o data.length (duesR ([45, 45] ++ bnd) lead.length ps)).map (fun d => ((front.length : Int) + d.1, (front.length : Int) + d.2)) ∧
    Gaps (3 + bnd.length) (dueF o data.length (duesR ([45, 45] ++ bnd) lead.length ps)) := by
  have hen : front.length + data.length ≤ full.length := by rw [hf]; simp
  rw [PS_of (by omega) hen]
  have hs0 : subD full (front.length + data.length) front.length = data := by
    unfold subD
    rw [hf, List.append_assoc, List.drop_left, show front.length + data.length - front.length = data.length by omega, List.take_left]
  obtain ⟨bf, hq, hs1⟩ : ∃ bf, PS full bnd (front.length + data.length) front.length none front.length = PS full bnd (front.length + data.length) (front.length + lead.length) none bf ∧ subD full (front.length + data.length) (front.length + lead.length) = flatP ([45, 45] ++ bnd) ps ++ tail := by
    rcases hl with rfl | ⟨b, e, rfl, h1, h2⟩
    · exact ⟨_, rfl, by rw [List.length_nil, Nat.add_zero, hs0, hd]; rfl⟩
    · have hs : subD full (front.length + data.length) front.length = b ++ e ++ [10] ++ (flatP ([45, 45] ++ bnd) ps ++ tail) := by rw [hs0, hd]; simp
      exact ⟨_, PS_quiet hen hs h1 h2, (sub_drop hen hs).2⟩
  rw [hq]
  obtain ⟨acc, bg', bf', r1, r2, r3, r4⟩ := parts_run hen hb ps (front.length + lead.length) none bf hp hs1
  rw [r1]
  have hgap := (duesR_ge ps lead.length hp).1
  have hsh := duesR_shift ([45, 45] ++ bnd) front.length ps lead.length
  have r2' : acc ++ endP bg' bf' = duesR ([45, 45] ++ bnd) (front.length + lead.length) ps := r2
  clear r2 hq r1
  have last : ∀ {R : List (Int × Int)}, R = endP bg' bf' → acc ++ R = (dueF false data.length (duesR ([45, 45] ++ bnd) lead.length ps)).map (fun d => ((front.length : Int) + d.1, (front.length : Int) + d.2)) := by
    intro R hR
    rw [hR, r2', hsh]
    simp [dueF]
  have last2 : Gaps (3 + bnd.length) (dueF false data.length (duesR ([45, 45] ++ bnd) lead.length ps)) := by
    have e : dueF false data.length (duesR ([45, 45] ++ bnd) lead.length ps) = duesR ([45, 45] ++ bnd) lead.length ps := by simp [dueF]
    rw [e]; exact hgap
  cases he with
  | line w e rest hw he => exact ⟨last (PS_last hen r3 he hb hw), last2⟩
  | bare w hw => exact ⟨last (PS_lastbare hen r3 hb hw), last2⟩
  | none =>
    rw [PS_end r3]
    generalize hD : duesR ([45, 45] ++ bnd) lead.length ps = D at hgap hsh ⊢
    rw [hsh] at r2'
    cases bg' with
    | none =>
      have ha := r4 rfl
      subst ha
      have hD0 : D = [] := by
        cases D with
        | nil => rfl
        | cons => simp [endP] at r2'
      subst hD0
      exact ⟨rfl, fun i x y hx => by simp [dueF] at hx⟩
    | some b =>
      obtain ⟨x, hx⟩ : ∃ x, endP (some b) bf' = [((b : Int), x)] := ⟨_, rfl⟩
      rw [hx] at r2'
      have hne : D ≠ [] := by
        rintro rfl
        simp at r2'
      obtain ⟨D', b0, x0, rfl⟩ : ∃ D' b0 x0, D = D' ++ [(b0, x0)] := ⟨D.dropLast, (D.getLast hne).1, (D.getLast hne).2, (List.dropLast_concat_getLast hne).symm⟩
      have e1 : dueF true data.length (D' ++ [(b0, x0)]) = D' ++ [(b0, (data.length : Int))] := by
        unfold dueF
        rw [if_pos ⟨rfl, by simp⟩, setLast_snoc]
      rw [e1]
      rw [List.map_append] at r2'
      have hlen : acc.length = (D'.map fun d => ((front.length : Int) + d.1, (front.length : Int) + d.2)).length := by
        have := congrArg List.length r2'
        simp at this ⊢
        exact this
      obtain ⟨q1, q2⟩ := List.append_inj r2' hlen
      refine ⟨?_, hgap.last⟩
      rw [q1, List.map_append]
      congr 1
      have q3 : (b : Int) = (front.length : Int) + b0 := by simpa using congrArg (fun l : List (Int × Int) => (l.getD 0 (0, 0)).1) q2
      show [((b : Int), ((front.length + data.length : Nat) : Int))] = [((front.length : Int) + b0, (front.length : Int) + (data.length : Int))]
      rw [q3]
      push_cast
      rfl

noncomputable abbrev kAnp (F : Fm) (y : Expr) (ds : List (Option D)) (K : D → Led → Prop) : Bool → Led → Prop := fun b μ' => if b then Wp F y ds μ' K else K (.bool false) μ'
theorem Wp.and {F : Fm} {ds : List (Option D)} {μ : Led} {K : D → Led → Prop} {x y : Expr} {p : Pos} (h : Wp F x ds μ (kB (kAnp F y ds K))) : Wp F (.BoolOp .And [x, y] p) ds μ K :=
  fun A h₀ s ok => PyProof.Rows.BoolOp_and (wpA (h A h₀ s ok) fun v s₁ p1 => by
    refine p1.el fun st1 d μ1 hk3 r1 S1 => ?_
    obtain ⟨b, rfl, k1⟩ := hk3
    cases r1
    refine wpAny_truthy_bool ?_
    cases b with
    | false => exact ⟨st1, .bool false, μ1, k1, .val _, S1⟩
    | true => exact PyProof.Rows.BoolOp_one (wpA (k1 A h₀ s₁ (ok.to S1)) fun _ _ p => p.after st1))

/-! ### _law_joined_right -/
theorem flatten_le {c : Nat} : ∀ {xs : List (List UInt8)}, (∀ x ∈ xs, x.length ≤ c) → xs.flatten.length ≤ xs.length * c
  | [], _ => by simp
  | x :: xs, h => by
    have h1 := h x (.head _)
    have h2 := flatten_le (xs := xs) fun y hy => h y (.tail _ hy)
    rw [List.flatten_cons, List.length_append, List.length_cons, Nat.succ_mul]
    omega
theorem duesR_of (m b : List UInt8) (off : Nat) (ps : List Part) : duesR m off (partOf b :: ps) = (((off + (m ++ [13, 10]).length : Nat) : Int), ((off + (m ++ [13, 10]).length : Nat) : Int) + (b.length : Int)) :: duesR m (off + (pieceB m b).length) ps := by
  have e1 : m ++ (partOf b).w ++ (partOf b).e = m ++ [13, 10] := by simp [partOf]
  rw [duesR, partOf_B, e1, Int.natCast_add (off + _)]
  rfl
noncomputable abbrev jrNs : List Str := ["bodies", "boundary", "bare", "line", "data", "at", "due", "body", "begin"]
noncomputable abbrev jrGl : List Str := ["bytes", "joined_bodies", "len", "part_spans"]
theorem jr_scope : okFn (scopeAt 20) jrNs jrGl = true := by decide +kernel
structure LibJr (W : GW) (aJb aLs aBw aPs a : Addr) : Prop where
  jb : LibJb W aJb
  ps : LibPs W aLs aBw aPs
  f : FnAt W a 20 ["bodies", "boundary"]
  jbd : GD W "joined_bodies" (.ref aJb)
  psd : GD W "part_spans" (.ref aPs)
  bytes : GD W "bytes" (.val (.type "bytes"))
  ord : GD W "ord" (.val (.builtin "ord"))
  len : GD W "len" (.val (.builtin "len"))
noncomputable abbrev jrGs (aJb aPs : Addr) : List (Str × D) := [("bytes", .val (.type "bytes")), ("joined_bodies", .ref aJb), ("len", .val (.builtin "len")), ("part_spans", .ref aPs)]
noncomputable abbrev tlB (m : List UInt8) : List UInt8 := m ++ [45, 45] ++ [13, 10]
noncomputable abbrev jrJ (μ : Led) (d : D) (a0 : Addr) (j : Nat) (data : List UInt8) (bodies : List (List UInt8)) (tot : List (Int × Int)) (i : Nat) (ds : List (Option D)) (μ' : Led) : Prop := ∃ (off : Nat) (acc : List (Int × Int)) (o1 o2 : Option D),
    ds = [some d, some (.str (bStr j)), some (.bytes (bare j)), some (.bytes (markB j ++ [13, 10])), some (.bytes data), some (.int off), some (.ref a0), o1, o2] ∧
    acc ++ duesR (markB j) off ((bodies.drop i).map partOf) = tot ∧ data.drop off = ((bodies.drop i).map (pieceB (markB j))).flatten ++ tlB (markB j) ∧ acc.length ≤ i ∧ off ≤ 2000 * i ∧ Ext μ μ' ∧ μ' a0 = some (acc.map pairD)
@[elab_as_elim] theorem jrJ.elim {μ : Led} {d : D} {a0 : Addr} {j : Nat} {data : List UInt8} {bodies : List (List UInt8)} {tot : List (Int × Int)} {i : Nat} {ds : List (Option D)} {μ' : Led} {P : List (Option D) → Prop} (h : jrJ μ d a0 j data bodies tot i ds μ')
    (k : ∀ (off : Nat) (acc : List (Int × Int)) (o1 o2 : Option D), acc ++ duesR (markB j) off ((bodies.drop i).map partOf) = tot → data.drop off = ((bodies.drop i).map (pieceB (markB j))).flatten ++ tlB (markB j) → acc.length ≤ i → off ≤ 2000 * i → Ext μ μ' → μ' a0 = some (acc.map pairD) →
      P [some d, some (.str (bStr j)), some (.bytes (bare j)), some (.bytes (markB j ++ [13, 10])), some (.bytes data), some (.int off), some (.ref a0), o1, o2]) : P ds := by
  obtain ⟨off, acc, o1, o2, rfl, h1, h2, h3, h4, h5, h6⟩ := h
  exact k off acc o1 o2 h1 h2 h3 h4 h5 h6
theorem joined_len {bodies : List (List UInt8)} {m : List UInt8} (hm : m.length ≤ 10) (hbl : bodies.length ≤ 4) (hz : ∀ b ∈ bodies, b.length ≤ 1000) : (joinedB bodies m).length ≤ 6000 := by
  have h1 : (bodies.map (pieceB m)).flatten.length ≤ (bodies.map (pieceB m)).length * 1014 := flatten_le fun y hy => by
    obtain ⟨b, hb, rfl⟩ := List.mem_map.mp hy
    have := hz b hb
    simp only [pieceB, List.length_append, List.length_cons, List.length_nil]; omega
  rw [List.length_map] at h1
  simp only [joinedB, List.length_append, List.length_cons, List.length_nil]
  omega
theorem piece_len (m b : List UInt8) : (pieceB m b).length = (m ++ [13, 10]).length + b.length + 2 := by simp [pieceB]; omega
theorem off_next {off L i : Nat} (h : off ≤ 2000 * i) (h2 : L ≤ 2000) : off + L ≤ 2000 * (i + 1) := Nat.add_le_add h h2
theorem ee_of {off a b L : Nat} (h : L = a + b + 2) : (((off + a : Nat) : Int) + (b : Int) + 2) = ((off + L : Nat) : Int) := by omega
theorem two_less {a b : Nat} (h : a = b + 2) : ((a : Int) - 2) = ((b : Nat) : Int) := by omega
set_option maxHeartbeats 2000000 in
theorem jr_wc {W : GW} {n : Nat} {aJb aLs aBw aPs a : Addr} (x : LibJr W aJb aLs aBw aPs a) {d : D} {bodies : List (List UInt8)} {j : Nat} {μ : Led} {K : D → Led → Prop} (hj : j < 20) (hbl : bodies.length ≤ 4) (hz : ∀ b ∈ bodies, b.length ≤ 1000)
    (hμ : ∀ μ', Ext μ μ' → Lis W μ' d (bodies.map D.bytes)) (hno : ∀ b ∈ bodies, ∀ q ∈ splitB 10 b, ¬ markB j <+: q) (k : ∀ μ', Ext μ μ' → K (.bool true) μ') : Wc W (n + 3) (.ref a) [d, .str (bStr j)] μ K := by
  refine x.f.wc ["bare", "line", "data", "at", "due", "body", "begin"] jrNs (jrGs aJb aPs)
    [some d, some (.str (bStr j)), none, none, none, none, none, none, none] jr_scope (.cons x.bytes (.cons x.jbd (.cons x.len (.cons x.psd .nil)))) rfl fun e he => ?_
  have hord := x.ord
  have nk := num_ok hj
  have hml : (markB j).length ≤ 2 + 8 := app_sz (Nat.le_refl 2) nk.bl
  have hjl := joined_len hml hbl hz
  have hlaw := joined_law (bnd := bare j) (bodies := bodies) (bare_ok hj) hno
  have hflat := flatP_of (markB j) bodies
  refine Ws.cons ?_
  repeat walk_at "my"
  refine ⟨nk.asc, Nat.le_trans nk.b8 (by decide), fun μ1 hext => ?_⟩
  have hbr : octs (bStr j) = bare j := rfl
  rw [hbr]
  repeat walk_at "my"
  refine We.unpack (fun _ => rfl) (fun env h => (swapped_scope (h.trans he)).trans (by kernel_rfl)) ?_
  repeat walk_at "my"
  refine W2.add_sz (Nat.le_refl 2) nk.bl rfl fun _ => ?_
  have hmk : [45, 45] ++ bare j = markB j := rfl
  rw [hmk] at hlaw ⊢
  repeat walk_at "my"
  refine W2.add_sz hml (Nat.le_refl 2) rfl fun hl2 => ?_
  repeat walk_at "my"
  refine call_fn x.jb.f.callee ?_
  repeat walk_at "my"
  refine jb_wc x.jb hj (le_sz hbl rfl) (fun μ' h' => hμ _ (hext.trans h')) (le_sz hjl rfl) fun μ2 hext2 => ?_
  have hext := hext.trans hext2
  clear hext2
  repeat walk_at "my"
  refine Wp.list (Wl.nil ⟨few (Nat.le_of_ble_eq_true rfl), fun a0 ha0 => ?_⟩)
  repeat walk_at "my"
  refine ⟨few (Nat.le_of_ble_eq_true rfl), ?_⟩
  repeat walk_at "my"
  have hμa : μ a0 = none := by
    cases q : μ a0 with
    | none => rfl
    | some ds => rw [hext _ _ q] at ha0; cases ha0
  generalize hdat : joinedB bodies (markB j) = data at hlaw hjl ⊢
  generalize htot : duesR (markB j) 0 (bodies.map partOf) = tot at hlaw
  have hd0 : data.drop 0 = (bodies.map (pieceB (markB j))).flatten ++ (markB j ++ [45, 45] ++ [13, 10]) := by rw [← hdat]; simp [joinedB]
  refine We.for_ (fun _ _ => rfl) (Wit.list ?_)
  repeat walk_at "my"
  refine ⟨_, hμ _ (hext.trans (Ext.upd ha0)), jrJ μ d a0 j data bodies tot,
    ⟨0, [], none, none, rfl, htot, hd0, Nat.le_refl _, Nat.le_refl _, hext.trans (Ext.upd ha0), upd_same _ _ _⟩, ?_, ?_, ?_⟩
  · intro i ds μ' hJ; exact jrJ.elim (P := fun _ => Lis _ _ _ _) hJ fun _ _ _ _ _ _ _ _ h _ => hμ _ h
  · intro i d' ds1 μ3 hx hJ
    refine jrJ.elim hJ fun off acc o1 o2 hacc hdrop hal hol hx3 ha3 => ?_
    clear hJ
    refine map_get hx fun b q => ?_
    · clear hx
      obtain ⟨hi, hq⟩ := List.getElem?_eq_some_iff.mp q
      have hbz := hz b (List.mem_of_getElem? q)
      have hi3 : i ≤ 3 := Nat.le_of_lt_succ (Nat.lt_of_lt_of_le hi hbl)
      rw [List.drop_eq_getElem_cons hi, hq] at hacc hdrop
      rw [List.map_cons, duesR_of] at hacc
      rw [List.map_cons, List.flatten_cons, List.append_assoc] at hdrop
      have hpl := piece_len (markB j) b
      repeat walk_at "my"
      refine Wc.len_sz hl2 rfl ?_
      repeat walk_at "my"
      have eb : ((off : Int) + ((markB j ++ [13, 10]).length : Int)) = ((off + (markB j ++ [13, 10]).length : Nat) : Int) := rfl
      rw [eb]
      refine ref_of ha3 ?_
      repeat walk_at "my"
      refine Wc.len_sz hbz rfl ?_
      repeat walk_at "my"
      refine Wc.append ha3 (by rw [List.length_map]; exact few_sz (Nat.le_trans hal hi3) rfl) ?_
      repeat walk_at "my"
      refine ⟨le_sz hjl rfl, ?_⟩
      repeat walk_at "my"
      refine Wc.len_sz hbz rfl ?_
      repeat walk_at "my"
      refine W2.add_sz hl2 hbz rfl fun z1 => ?_
      repeat walk_at "my"
      refine W2.add_sz z1 (Nat.le_refl 2) rfl fun z2 => ?_
      have ee : (((off + (markB j ++ [13, 10]).length : Nat) : Int) + (b.length : Int) + 2) = ((off + (pieceB (markB j) b).length : Nat) : Int) := ee_of hpl
      rw [ee]
      have hcut : cut data (some (off : Int)) (some ((off + (pieceB (markB j) b).length : Nat) : Int)) = markB j ++ [13, 10] ++ b ++ [13, 10] := by
        rw [cut_pre hdrop (Nat.le_refl _), List.take_length]; rfl
      rw [hcut]
      repeat walk_at "my"
      rw [bne_self_eq_false]
      repeat walk_at "my"
      refine Wc.len_sz hbz rfl ?_
      repeat walk_at "my"
      rw [ee]
      refine ⟨off + (pieceB (markB j) b).length, acc ++ [(((off + (markB j ++ [13, 10]).length : Nat) : Int), ((off + (markB j ++ [13, 10]).length : Nat) : Int) + (b.length : Int))], _, _, rfl, ?_, drop_next hdrop, by rw [List.length_append]; exact Nat.succ_le_succ hal, off_next hol (le_sz z2 rfl), fun c ds q' => ?_, ?_⟩
      · rw [← hacc, List.append_assoc]; rfl
      · have hca : c ≠ a0 := fun z => by rw [z, hμa] at q'; cases q'
        exact (upd_ne _ _ hca).trans (hx3 _ _ q')
      · rw [upd_same, List.map_append]; rfl
  · intro ds1 μ3 hJ
    refine jrJ.elim hJ fun off acc o1 o2 hacc hdrop hal hol hx3 ha3 => ?_
    clear hJ
    have hdn : bodies.drop (bodies.map D.bytes).length = [] := by rw [List.length_map, List.drop_length]
    rw [hdn] at hacc hdrop
    have hacc : acc = tot := by simpa [duesR] using hacc
    subst hacc
    have hll : (markB j ++ [13, 10]).length = (markB j).length + 2 := by simp
    repeat walk_at "my"
    refine Wp.and ?_
    repeat walk_at "my"
    refine ⟨le_sz hjl rfl, ?_⟩
    repeat walk_at "my"
    refine ⟨le_sz hl2 rfl, ?_⟩
    repeat walk_at "my"
    refine Wc.len_sz hl2 rfl ?_
    repeat walk_at "my"
    have el : cut (markB j ++ [13, 10]) none (some (((markB j ++ [13, 10]).length : Int) - 2)) = markB j := by
      have e1 : (((markB j ++ [13, 10]).length : Int) - 2) = ((markB j).length : Nat) := two_less hll
      rw [e1, cut_to, List.take_left]
    rw [el]
    refine W2.add_sz hml (Nat.le_refl 4) rfl fun _ => ?_
    have er : cut data (some (off : Int)) none = markB j ++ [45, 45, 13, 10] := by
      rw [cut_from, hdrop]; simp
    rw [er]
    repeat walk_at "my"
    rw [beq_self_eq_true]
    repeat walk_at "my"
    refine call_fn x.ps.f.callee ?_
    repeat walk_at "my"
    refine Wc.len_sz hjl rfl ?_
    repeat walk_at "my"
    refine ps_wc x.ps (at_ := 0) (le_sz hjl rfl) (le_sz nk.bl rfl) (Nat.zero_le _) (Nat.le_refl _) fun a1 μ4 hext4 ha1 hl1 => ?_
    rw [hlaw] at hl1
    repeat walk_at "my"
    refine W2.eq_pairs (.led hl1) (.led (hext4 _ _ ha3)) ?_
    rw [beq_self_eq_true]
    repeat walk_at "my"
    exact k _ (hx3.trans hext4)

/-! ### _law_rough_right -/
theorem TapeAt.upd {μ : Led} {t c b : Addr} {xs : List D} (x : TapeAt μ t c) (h1 : b ≠ t) (h2 : b ≠ c) : TapeAt (upd μ b xs) t c := by
  obtain ⟨p1, p2, ns, r1, r2, r⟩ := x.out
  exact ⟨p1, p2, ns, (upd_ne _ _ (Ne.symm h1)).trans r1, (upd_ne _ _ (Ne.symm h2)).trans r2, r⟩
theorem sub_led_last {W : GW} {n : Nat} {μ : Led} {K : D → Led → Prop} {a : Addr} {xs : List D} {d : D} (ha : μ a = some xs) (hz : xs.length ≤ 1000) (hd : xs[xs.length - 1]? = some d) (k : K d μ) : (∃ T, TyS W μ (.ref a) T) ∧ W2 W n getItem (.ref a) (.int (-1)) μ K := by
  have hn : 0 < xs.length := by
    rcases Nat.eq_zero_or_pos xs.length with h | h
    · rw [List.getElem?_eq_none (by omega)] at hd; cases hd
    · exact h
  refine ⟨⟨_, .list (.led ha)⟩, W2.item_list_neg ha (by decide) (Int.neg_le_neg (Int.ofNat_le.mpr hn)) (by decide) ?_ k⟩
  rw [← hd, last_nat hn]
  rfl
theorem set_led_last {W : GW} {n : Nat} {μ : Led} {K : Led → Prop} {a : Addr} {xs : List D} {d : D} (ha : μ a = some xs) (hn : 0 < xs.length) (k : K (upd μ a (xs.set (xs.length - 1) d))) : W3 W n setItem (.ref a) (.int (-1)) d μ K := by
  refine W3.set ha (by decide +kernel) ?_ (by omega) k
  unfold seqIndex?
  have h1 : (-1 + (xs.length : Int)) = ((xs.length - 1 : Nat) : Int) := last_nat hn
  have h2 : ((xs.length - 1 : Nat) : Int) < (xs.length : Int) := last_lt hn
  simp [h1, h2]
theorem clip_neg1 (n : Nat) : clipAt n (-1) = n - 1 := by
  cases n with
  | zero => rfl
  | succ m =>
    have e : (-1 : Int) + ((m + 1 : Nat) : Int) = (m : Int) := by rw [Int.natCast_succ, Int.add_comm, Int.add_neg_cancel_right]
    unfold clipAt
    rw [if_pos (by decide), e, Int.min_eq_left (Int.ofNat_le.mpr (Nat.le_succ m)), Int.max_eq_right (Int.natCast_nonneg m)]
    rfl
theorem cut_last (b : List UInt8) : (cut b (some (-1)) none = [13]) ↔ b.getLast? = some 13 := by
  have e : cut b (some (-1)) none = b.drop (b.length - 1) := by
    unfold cut
    simp only [Option.elim]
    rw [clip_neg1, List.take_of_length_le (by rw [List.length_drop]; exact Nat.le_refl _)]
  rw [e, List.getLast?_eq_getElem?]
  cases b with
  | nil => exact ⟨(fun h => nomatch h), (fun h => nomatch h)⟩
  | cons x r =>
    have h1 : (x :: r).length - 1 < (x :: r).length := Nat.lt_succ_self _
    rw [List.drop_eq_getElem_cons h1, List.drop_of_length_le (l := x :: r) (i := (x :: r).length - 1 + 1) (Nat.le_refl _), List.getElem?_eq_getElem h1]
    simp
noncomputable def leadL : List (List UInt8) := [[], [120, 13, 10], [45, 45, 10]]
noncomputable def whiteL : List (List UInt8) := [[], [32], [9, 32], [32, 32]]
noncomputable def eolR : List (List UInt8) := [[13, 10], [10]]
noncomputable def endR (bnd : List UInt8) : List (List UInt8) := [[45, 45, 13, 10], [45, 45, 9, 10, 45, 45] ++ bnd ++ [13, 10, 122], [45, 45, 32]]
noncomputable def frontL : List (List UInt8) := [[], [122, 122], [97, 13]]
noncomputable def backR (bnd : List UInt8) : List (List UInt8) := [[], [13, 10, 45, 45] ++ bnd ++ [13, 10], [45, 45]]
theorem white_ok : ∀ w ∈ whiteL, blank w ∧ w.length ≤ 2 := by
  intro w h
  have h : w = [] ∨ w = [32] ∨ w = [9, 32] ∨ w = [32, 32] := by simpa [whiteL] using h
  rcases h with rfl | rfl | rfl | rfl <;> refine ⟨fun c hc => ?_, by decide⟩ <;> simp at hc <;> first | exact .inl hc | exact .inr hc | exact hc.symm
theorem eolR_ok : ∀ e ∈ eolR, isEol e ∧ e.length ≤ 2 := by
  intro e h
  have h : e = [13, 10] ∨ e = [10] := by simpa [eolR] using h
  rcases h with rfl | rfl
  · exact ⟨.inl rfl, by decide⟩
  · exact ⟨.inr rfl, by decide⟩
theorem leadL_ok (bnd : List UInt8) (h3 : 0 < bnd.length) : ∀ l ∈ leadL, leadOk bnd l ∧ l.length ≤ 3 := by
  intro l h
  have h : l = [] ∨ l = [120, 13, 10] ∨ l = [45, 45, 10] := by simpa [leadL] using h
  rcases h with rfl | rfl | rfl
  · exact ⟨.inl rfl, by decide⟩
  · refine ⟨.inr ⟨[120], [13], rfl, .inl rfl, fun p hp => ?_⟩, by decide⟩
    have hp : p = [120] := by simpa [splitB] using hp
    subst hp
    intro q
    have := q.length_le
    simp at this
  · refine ⟨.inr ⟨[45, 45], [], rfl, .inr ⟨rfl, by decide⟩, fun p hp => ?_⟩, by decide⟩
    have hp : p = [45, 45] := by simpa [splitB] using hp
    subst hp
    intro q
    have := q.length_le
    simp at this
    subst this
    simp at h3
theorem endR_ok (bnd : List UInt8) : ∀ t ∈ endR bnd, EndOk bnd false (([45, 45] ++ bnd) ++ t) ∧ t.length ≤ bnd.length + 20 := by
  intro t h
  have h : t = [45, 45, 13, 10] ∨ t = [45, 45, 9, 10, 45, 45] ++ bnd ++ [13, 10, 122] ∨ t = [45, 45, 32] := by simpa [endR] using h
  rcases h with rfl | rfl | rfl
  · have := EndOk.line (bnd := bnd) [] [13] [] (fun c hc => nomatch hc) (.inl rfl)
    exact ⟨by simpa using this, by simp⟩
  · have := EndOk.line (bnd := bnd) [9] [] ([45, 45] ++ bnd ++ [13, 10, 122]) (fun c hc => .inr (by simpa using hc)) (.inr rfl)
    exact ⟨by simpa using this, by simp⟩
  · have := EndOk.bare (bnd := bnd) [32] (fun c hc => .inl (by simpa using hc))
    exact ⟨by simpa using this, by simp⟩
theorem small_ok (bnd : List UInt8) : (∀ f ∈ frontL, f.length ≤ 2) ∧ ∀ b ∈ backR bnd, b.length ≤ bnd.length + 6 := by
  constructor
  · decide
  · intro b h
    have h : b = [] ∨ b = [13, 10, 45, 45] ++ bnd ++ [13, 10] ∨ b = [45, 45] := by simpa [backR] using h
    rcases h with rfl | rfl | rfl
    · simp
    · simp
    · simp
theorem bare_pos : ((List.range 20).all fun j => decide (0 < (bare j).length)) = true := by decide +kernel
noncomputable abbrev rrNs : List Str := ["tape", "bodies", "boundary", "bare", "lead", "ending", "data", "due", "body", "drawn", "white", "begin", "is_side", "front", "back", "told_spans", "one", "other"]
noncomputable abbrev rrGl : List Str := ["bytes", "_law_draw", "len", "boundary_way", "part_spans", "zip"]
theorem rr_scope : okFn (scopeAt 21) rrNs rrGl = true := by decide +kernel
structure LibRr (W : GW) (aDr aLs aBw aPs a : Addr) : Prop where
  dr : FnAt W aDr 17 drawPs
  ps : LibPs W aLs aBw aPs
  f : FnAt W a 21 ["tape", "bodies", "boundary"]
  drd : GD W "_law_draw" (.ref aDr)
  psd : GD W "part_spans" (.ref aPs)
  bwd : GD W "boundary_way" (.ref aBw)
  bytes : GD W "bytes" (.val (.type "bytes"))
  ord : GD W "ord" (.val (.builtin "ord"))
  len : GD W "len" (.val (.builtin "len"))
  zip : GD W "zip" (.val (.type "zip"))

noncomputable abbrev rrGs (aDr aBw aPs : Addr) : List (Str × D) := [("bytes", .val (.type "bytes")), ("_law_draw", .ref aDr), ("len", .val (.builtin "len")), ("boundary_way", .ref aBw), ("part_spans", .ref aPs), ("zip", .val (.type "zip"))]
theorem duesR_len (m : List UInt8) : ∀ (ps : List Part) (off : Nat), (duesR m off ps).length = ps.length
  | [], _ => rfl
  | p :: ps, off => by rw [duesR, List.length_cons, duesR_len m ps, List.length_cons]
set_option maxHeartbeats 4000000 in
theorem rr_tail {W : GW} {n : Nat} {aDr aLs aBw aPs a t c ab a0 : Addr} {e : Env} (x : LibRr W aDr aLs aBw aPs a) (he : e.scope = scopeAt 21) {j : Nat} {bnd lead : List UInt8} {ps : List Part} {en : Int} {o1 o2 o3 o4 o5 : Option D} {μ : Led} {K : D → Led → Prop}
    (hbb : ∀ x ∈ bnd, x ≠ 10 ∧ x ≠ 13) (hbl8 : bnd.length ≤ 8) (hlead : leadOk bnd lead) (hleadl : lead.length ≤ 3) (hps : ∀ p ∈ ps, PartOk bnd p) (hfl : (flatP ([45, 45] ++ bnd) ps).length ≤ 5000)
    (T : TapeAt μ t c) (e0 : 0 ≤ en) (e1 : en < 4) (h0t : a0 ≠ t) (h0c : a0 ≠ c) (hd : μ a0 = some ((duesR ([45, 45] ++ bnd) lead.length ps).map pairD)) (hpl : ps.length ≤ 4) (k : ∀ μ', K (.bool true) μ') :
    Ws ⟨W, n + 2, e, rrNs, [], rrGs aDr aBw aPs⟩ ((bodyAt 21).drop 4)
      [some (.ref t), some (.ref ab), some (.str (bStr j)), some (.bytes bnd), some (.bytes lead), some (.int en), some (.bytes (lead ++ flatP ([45, 45] ++ bnd) ps)), some (.ref a0), o1, o2, o3, o4, o5, none, none, none, none, none] μ (retK K) := by
  obtain ⟨o, ho⟩ : ∃ o : Bool, o = decide (en = 0) := ⟨_, rfl⟩
  generalize hdat : lead ++ flatP ([45, 45] ++ bnd) ps = dat
  have hdl : dat.length ≤ 3 + 5000 := by rw [← hdat]; exact app_sz hleadl hfl
  generalize hD : duesR ([45, 45] ++ bnd) lead.length ps = due at hd
  have hDl : due.length = ps.length := by rw [← hD, duesR_len]
  refine Ws.forget (ds' := [some (.ref t), none, none, some (.bytes bnd), none, some (.int en), some (.bytes dat), some (.ref a0), none, none, none, none, none, none, none, none, none, none]) (.keep (.drop (.drop (.keep (.drop (.keep (.keep (.keep (.drop (.drop (.drop (.drop (.drop (.keep (.keep (.keep (.keep (.keep .nil)))))))))))))))))) ?_
  refine Ws.cons (We.mono (K := fun g ds μ' => g = .next ∧ ds = [some (.ref t), none, none, some (.bytes bnd), none, some (.int en), some (.bytes dat), some (.ref a0), none, none, none, none, none, none, none, none, none, none] ∧
      TapeAt μ' t c ∧ μ' a0 = some ((dueF o dat.length due).map pairD)) ?_ ?_)
  · repeat walk_at "my"
    refine ite_of (fun hc => ?_) fun hc => ?_
    · have ho1 : o = true := by rw [ho]; simpa using hc
      repeat walk_at "my"
      refine Wp.list (Wl.nil ⟨few (Nat.le_of_ble_eq_true rfl), fun ae hae => ?_⟩)
      have h0e : a0 ≠ ae := fun z => by rw [← z, hd] at hae; cases hae
      have hd2 := upd_some (ds := []) hd hae
      have T2 := T.ext (Ext.upd (xs := []) hae)
      refine W2.ne_nil (.led hd2) (.led (upd_same _ _ _)) ?_
      generalize upd μ ae [] = μ2 at hd2 T2 ⊢
      refine bool_of (ite_of (fun hne => ?_) fun hne => ?_)
      · have hne : due ≠ [] := by rintro rfl; simp at hne
        have hn : 0 < due.length := List.length_pos_iff.mpr hne
        repeat walk_at "my"
        refine W1.neg_int ?_
        obtain ⟨due', q, rfl⟩ : ∃ due' q, due = due' ++ [q] := ⟨due.dropLast, due.getLast hne, (List.dropLast_concat_getLast hne).symm⟩
        refine sub_led_last hd2 (by rw [List.length_map, hDl]; exact le_sz hpl rfl) (d := pairD q) (by simp) ?_
        repeat walk_at "my"
        refine sub_tup (by decide) (by decide) rfl ?_
        repeat walk_at "my"
        refine Wc.len_sz hdl rfl ?_
        repeat walk_at "my"
        refine W1.neg_int ?_
        refine set_led_last hd2 (by rw [List.length_map]; exact hn) ?_
        repeat walk_at "my"
        refine ⟨rfl, rfl, T2.upd h0t h0c, ?_⟩
        rw [upd_same]
        unfold dueF
        rw [if_pos ⟨ho1, hne⟩, setLast_snoc]
        simp
      · have hne : due = [] := by
          cases due with
          | nil => rfl
          | cons => simp at hne
        repeat walk_at "my"
        refine ⟨rfl, rfl, T2, ?_⟩
        rw [hd2, hne]
        unfold dueF
        rw [if_neg fun z => z.2 rfl]
    · have ho1 : o = false := by rw [ho]; simpa using hc
      repeat walk_at "my"
      refine ⟨rfl, rfl, T, ?_⟩
      rw [hd]
      unfold dueF
      rw [if_neg fun z => by rw [ho1] at z; exact absurd z.1 (by decide)]
  rintro g ds1 μ1 ⟨rfl, rfl, T1, hd1⟩
  clear T hd
  refine thenK_next (Ws.cons (We.mono (K := fun g ds μ' => ∃ tail, EndOk bnd o tail ∧ tail.length ≤ 40 ∧ (o = true → tail = []) ∧ g = .next ∧
      ds = [some (.ref t), none, none, some (.bytes bnd), none, some (.int en), some (.bytes (dat ++ tail)), some (.ref a0), none, none, none, none, none, none, none, none, none, none] ∧ μ1 = μ') ?_ ?_))
  · repeat walk_at "my"
    refine ite_of (fun hc => ?_) fun hc => ?_
    · have hc : 0 < en := by simpa using hc
      have ho1 : o = false := by rw [ho]; exact decide_eq_false (Int.ne_of_gt hc)
      repeat walk_at "my"
      refine W2.add_sz hdl (Nat.le_refl 2) rfl fun z1 => ?_
      repeat walk_at "my"
      refine W2.add_sz z1 hbl8 rfl fun z2 => ?_
      repeat walk_at "my"
      refine W2.add_sz (Nat.le_refl 6) hbl8 rfl fun y1 => ?_
      repeat walk_at "my"
      refine W2.add_sz y1 (Nat.le_refl 3) rfl fun _ => ?_
      repeat walk_at "my"
      refine sub_tupB (endR bnd) (Int.sub_nonneg_of_le hc) (show en - 1 < (3 : Int) from Int.sub_right_lt_of_lt_add e1) (by show 3 ≤ 1000; decide) ?_
      have hm : (endR bnd).getD (en - 1).toNat [] ∈ endR bnd := getD_mem (tnl (n := 3) (Int.sub_nonneg_of_le hc) (Int.sub_right_lt_of_lt_add e1))
      generalize (endR bnd).getD (en - 1).toNat [] = tl at hm ⊢
      obtain ⟨h1, h2⟩ := endR_ok bnd tl hm
      have h2 : tl.length ≤ 28 := Nat.le_trans h2 (Nat.add_le_add_right hbl8 20)
      refine W2.add_sz z2 h2 rfl fun _ => ?_
      repeat walk_at "my"
      refine ⟨([45, 45] ++ bnd) ++ tl, ho1 ▸ h1, le_sz (app_sz (app_sz (Nat.le_refl 2) hbl8) h2) rfl, (fun z => by rw [ho1] at z; cases z), rfl, by simp, rfl⟩
    · have ho1 : o = true := by rw [ho]; exact decide_eq_true (Int.le_antisymm (Int.not_lt.mp (by simpa using hc)) e0)
      repeat walk_at "my"
      refine ⟨[], ho1 ▸ EndOk.none, by simp, fun _ => rfl, rfl, by simp, rfl⟩
  rintro g ds1 μ2 ⟨tail, hend, htl, hto, rfl, rfl, rfl⟩
  repeat walk_at "my"
  refine We.unpack (fun _ => rfl) (fun env h => (swapped_scope (h.trans he)).trans (by kernel_rfl)) ?_
  repeat walk_at "my"
  refine call_fn x.dr.callee ?_
  repeat walk_at "my"
  refine draw_wc x.dr x.len (by decide) (by decide) T1 fun fi μ2 l0 l1 T2 C2 => ?_
  have hd2 := C2 _ _ h0t h0c hd1
  clear T1 C2 hd1
  refine sub_tupB frontL l0 (by show fi < (3 : Int); exact l1) (by decide) ?_
  have hfm : frontL.getD fi.toNat [] ∈ frontL := getD_mem (tnl (n := 3) l0 l1)
  generalize frontL.getD fi.toNat [] = front at hfm ⊢
  have hfl2 := (small_ok bnd).1 front hfm
  repeat walk_at "my"
  refine W2.add_sz (Nat.le_refl 4) hbl8 rfl fun y1 => ?_
  repeat walk_at "my"
  refine W2.add_sz y1 (Nat.le_refl 2) rfl fun _ => ?_
  repeat walk_at "my"
  refine call_fn x.dr.callee ?_
  repeat walk_at "my"
  refine draw_wc x.dr x.len (by decide) (by decide) T2 fun bi μ3 b0 b1 T3 C3 => ?_
  have hd3 := C3 _ _ h0t h0c hd2
  clear T2 C3 hd2 T3
  refine sub_tupB (backR bnd) b0 (by show bi < (3 : Int); exact b1) (by show 3 ≤ 1000; decide) ?_
  have hbm : (backR bnd).getD bi.toNat [] ∈ backR bnd := getD_mem (tnl (n := 3) b0 b1)
  generalize (backR bnd).getD bi.toNat [] = back at hbm ⊢
  have hbl2 : back.length ≤ 14 := Nat.le_trans ((small_ok bnd).2 back hbm) (Nat.add_le_add_right hbl8 6)
  repeat walk_at "my"
  refine ⟨few (Nat.le_of_ble_eq_true rfl), ?_⟩
  repeat walk_at "my"
  refine call_fn x.ps.f.callee ?_
  have hdq : dueF o dat.length due = dueF o (dat ++ tail).length due := by
    cases o with
    | true => rw [hto rfl, List.append_nil]
    | false => rfl
  rw [hdq] at hd3
  have hlaw := rough_law (bnd := bnd) (front := front) (lead := lead) (tail := tail) (back := back) (ps := ps) (o := o) hbb hlead hps hend (data := dat ++ tail) (by rw [← hdat]) rfl
  rw [hD] at hlaw
  have hDl2 : (dueF o (dat ++ tail).length due).length ≤ 4 := by
    unfold dueF setLast
    split
    · rw [List.length_set, hDl]; exact hpl
    · rw [hDl]; exact hpl
  generalize dueF o (dat ++ tail).length due = duF at hd3 hlaw hDl2
  have hdl2 : (dat ++ tail).length ≤ 5043 := app_sz hdl htl
  generalize dat ++ tail = dat2 at hlaw hdl2 ⊢
  obtain ⟨hlaw, hgap⟩ := hlaw
  have hgap := hgap.map (F := (front.length : Int))
  have hD3 : (duF.map fun d => ((front.length : Int) + d.1, (front.length : Int) + d.2)).length = duF.length := List.length_map _
  have hfull : (front ++ dat2 ++ back).length = front.length + dat2.length + back.length := by simp only [List.length_append]
  repeat walk_at "my"
  refine W2.add_sz hfl2 hdl2 rfl fun x1 => ?_
  repeat walk_at "my"
  refine W2.add_sz x1 hbl2 rfl fun x2 => ?_
  repeat walk_at "my"
  refine Wc.len_sz hfl2 rfl ?_
  repeat walk_at "my"
  refine Wc.len_sz hfl2 rfl ?_
  repeat walk_at "my"
  refine Wc.len_sz hdl2 rfl ?_
  repeat walk_at "my"
  rw [← Int.natCast_add]
  refine ps_wc x.ps (le_sz x2 rfl) (le_sz hbl8 rfl) (Nat.le_add_right _ _) (by rw [hfull]; exact Nat.le_add_right _ _) fun al μ4 hext hal hl => ?_
  rw [hlaw] at hl
  have hd4 := hext _ _ hd3
  clear hd3 hlaw hext hal
  generalize htold : (duF.map fun d => ((front.length : Int) + d.1, (front.length : Int) + d.2)) = told at hl hgap hD3
  repeat walk_at "my"
  refine We.for_ (fun _ _ => rfl) (Wit.zip (fun _ => rfl) (fun _ => rfl) ?_)
  repeat walk_at "my"
  refine ⟨rfl, Wl.cons (fun _ => rfl) (Wp.name (by repeat (first | exact Has.head | apply Has.tail)) (Wl.cons (fun _ => rfl) (Wp.slice_list ?_)))⟩
  repeat walk_at "my"
  have htl4 : told.length ≤ 4 := hD3 ▸ hDl2
  refine ⟨_, .led hl, by rw [List.length_map]; exact few_sz htl4 rfl, fun as_ has => ?_⟩
  have e1 : cut (told.map pairD) (some 1) none = (told.drop 1).map pairD := by
    rw [show (1 : Int) = ((1 : Nat) : Int) from rfl, cut_from, List.map_drop]
  rw [e1]
  have hl5 := upd_some (ds := (told.drop 1).map pairD) hl has
  have hd5 := upd_some (ds := (told.drop 1).map pairD) hd4 has
  have hs5 := upd_same μ4 as_ ((told.drop 1).map pairD)
  generalize upd μ4 as_ ((told.drop 1).map pairD) = μ5 at hl5 hd5 hs5 ⊢
  clear hl hd4 has
  repeat walk_at "my"
  refine ⟨_, _, _, _, rfl, .led hl5, .led hs5, fun x y i h1 h2 => ?_, fun i ds μ' => ∃ p1 p2 : Option D, μ' = μ5 ∧
    ds = [some (.ref t), none, none, some (.bytes bnd), none, some (.int en), some (.bytes dat2), some (.ref a0), none, none, none, none, none, some (.bytes front), some (.bytes back), some (.ref al), p1, p2], ⟨none, none, rfl, rfl⟩, ?_, ?_, ?_⟩
  · rw [List.getElem?_map] at h1
    cases q : told[i]? with
    | none => rw [q] at h1; cases h1
    | some z => rw [q] at h1; cases h1; rfl
  · rintro i ds μ' ⟨p1, p2, rfl, -⟩
    exact ⟨.led hl5, .led hs5⟩
  · rintro i d ds1 μ' hx ⟨p1, p2, rfl, rfl⟩
    obtain ⟨u, v, h1, h2, rfl⟩ := pairs_get hx
    rw [List.getElem?_map] at h1 h2
    rw [List.getElem?_drop] at h2
    cases q1 : told[i]? with
    | none => rw [q1] at h1; cases h1
    | some one => cases q2 : told[1 + i]? with
      | none => rw [q2] at h2; cases h2
      | some other =>
        rw [q1] at h1; rw [q2] at h2
        cases h1; cases h2
        have hg := hgap i one other q1 (by rw [Nat.add_comm]; exact q2)
        repeat walk_at "my"
        refine sub_tup (by decide) (by decide) rfl ?_
        repeat walk_at "my"
        refine sub_tup (by decide) (by decide) rfl ?_
        repeat walk_at "my"
        refine Wc.len_sz hbl8 rfl ?_
        repeat walk_at "my"
        refine ite_of (fun hc => absurd hg (Int.not_le.mpr (of_decide_eq_true hc))) fun _ => ?_
        repeat walk_at "my"
        exact ⟨_, _, rfl, rfl⟩
  · rintro ds1 μ' ⟨p1, p2, rfl, rfl⟩
    repeat walk_at "my"
    refine Wp.comp ["front", "one", "other"] ["front"] [("len", .val (.builtin "len"))] [some (.bytes front), none, none]
      (okCp_of (gl := ["len"]) (fr := ["front"]) (by decide +kernel) rfl (.cons x.len .nil) (fr_of rrNs he (by decide +kernel))) (Cap.some rfl (by repeat (first | exact Has.head | apply Has.tail)) (Cap.none (Cap.none Cap.nil))) (fun _ _ => rfl) (Wit.list ?_)
    repeat walk_at "my"
    refine ⟨_, .led hd5, fun i μ2 ys => μ2 = μ' ∧ ys = ((duF.take i).map fun d => ((front.length : Int) + d.1, (front.length : Int) + d.2)).map pairD, ⟨rfl, rfl⟩, ?_, ?_, ?_, ?_, ?_⟩
    · rintro i μ2 ys ⟨rfl, -⟩; exact .led hd5
    · rintro i μ2 ys ⟨-, rfl⟩
      rw [List.length_map, List.length_map, List.length_take]; exact Nat.min_le_left _ _
    · rw [List.length_map]; exact few_sz hDl2 rfl
    · rintro e' he' i d μ2 ys hx ⟨rfl, rfl⟩
      refine map_get hx fun u q => ?_
      · clear hx
        repeat walk_at "my"
        refine Wc.len_sz hfl2 rfl ?_
        repeat walk_at "my"
        refine Wc.len_sz hfl2 rfl ?_
        repeat walk_at "my"
        refine ⟨rfl, ?_⟩
        rw [List.take_add_one, q, List.map_append, List.map_append]
        rfl
    · rintro μ2 ys ⟨rfl, rfl⟩ ac hac
      rw [List.length_map, List.take_of_length_le (Nat.le_refl _), htold]
      refine W2.eq_pairs (.led (upd_some hl5 hac)) (.led (upd_same _ _ _)) ?_
      rw [beq_self_eq_true]
      repeat walk_at "my"
      exact k _

theorem eol_le (c : Prop) [Decidable c] : (if c then ([10] : List UInt8) else [13, 10]).length ≤ 2 := by split <;> decide
noncomputable abbrev rrJ (t c ab a0 : Addr) (bodies : List (List UInt8)) (j : Nat) (bnd lead : List UInt8) (en : Int) (i : Nat) (ds : List (Option D)) (μ' : Led) : Prop := ∃ (ps : List Part) (o1 o2 o3 o4 o5 : Option D),
    ds = [some (.ref t), some (.ref ab), some (.str (bStr j)), some (.bytes bnd), some (.bytes lead), some (.int en), some (.bytes (lead ++ flatP ([45, 45] ++ bnd) ps)), some (.ref a0), o1, o2, o3, o4, o5, none, none, none, none, none] ∧
    (∀ p ∈ ps, PartOk bnd p) ∧ (flatP ([45, 45] ++ bnd) ps).length ≤ 1020 * i ∧ ps.length = i ∧ TapeAt μ' t c ∧ μ' ab = some (bodies.map D.bytes) ∧ μ' a0 = some ((duesR ([45, 45] ++ bnd) lead.length ps).map pairD)
@[elab_as_elim] theorem rrJ.elim {t c ab a0 : Addr} {bodies : List (List UInt8)} {j : Nat} {bnd lead : List UInt8} {en : Int} {i : Nat} {ds : List (Option D)} {μ' : Led} {P : List (Option D) → Prop} (h : rrJ t c ab a0 bodies j bnd lead en i ds μ')
    (k : ∀ (ps : List Part) (o1 o2 o3 o4 o5 : Option D), (∀ p ∈ ps, PartOk bnd p) → (flatP ([45, 45] ++ bnd) ps).length ≤ 1020 * i → ps.length = i → TapeAt μ' t c → μ' ab = some (bodies.map D.bytes) → μ' a0 = some ((duesR ([45, 45] ++ bnd) lead.length ps).map pairD) →
      P [some (.ref t), some (.ref ab), some (.str (bStr j)), some (.bytes bnd), some (.bytes lead), some (.int en), some (.bytes (lead ++ flatP ([45, 45] ++ bnd) ps)), some (.ref a0), o1, o2, o3, o4, o5, none, none, none, none, none]) : P ds := by
  obtain ⟨ps, o1, o2, o3, o4, o5, rfl, h1, h2, h3, h4, h5, h6⟩ := h
  exact k ps o1 o2 o3 o4 o5 h1 h2 h3 h4 h5 h6
set_option maxHeartbeats 4000000 in
theorem rr_wc {W : GW} {n : Nat} {aDr aLs aBw aPs a t c ab : Addr} (x : LibRr W aDr aLs aBw aPs a) {bodies : List (List UInt8)} {j : Nat} {μ : Led} {K : D → Led → Prop} (hj : j < 20) (hbl : bodies.length ≤ 4) (hz : ∀ b ∈ bodies, b.length ≤ 1000)
    (T : TapeAt μ t c) (hb : μ ab = some (bodies.map D.bytes)) (habt : ab ≠ t) (habc : ab ≠ c) (hno : ∀ b ∈ bodies, ∀ q ∈ splitB 10 b, ¬ markB j <+: q) (k : ∀ μ', K (.bool true) μ') : Wc W (n + 3) (.ref a) [.ref t, .ref ab, .str (bStr j)] μ K := by
  refine x.f.wc ["bare", "lead", "ending", "data", "due", "body", "drawn", "white", "begin", "is_side", "front", "back", "told_spans", "one", "other"] rrNs
    (rrGs aDr aBw aPs)
    [some (.ref t), some (.ref ab), some (.str (bStr j)), none, none, none, none, none, none, none, none, none, none, none, none, none, none, none] rr_scope (.cons x.bytes (.cons x.drd (.cons x.len (.cons x.bwd (.cons x.psd (.cons x.zip .nil)))))) rfl fun e he => ?_
  have hord := x.ord
  have nk := num_ok hj
  have hbb := bare_ok hj
  have hbl8 : (bare j).length ≤ 8 := nk.bl
  have hbl0 : 0 < (bare j).length := by
    have := List.all_eq_true.mp bare_pos j (List.mem_range.mpr hj)
    simpa using this
  refine Ws.cons ?_
  repeat walk_at "my"
  refine ⟨nk.asc, Nat.le_trans nk.b8 (by decide), fun μ1 hext => ?_⟩
  have hbr : octs (bStr j) = bare j := rfl
  rw [hbr]
  have T1 := T.ext hext
  have hb1 := hext _ _ hb
  clear hext T hb
  generalize hbd : bare j = bnd at hbb hbl8 hbl0 ⊢
  have hno : ∀ b ∈ bodies, ∀ q ∈ splitB 10 b, ¬ ([45, 45] ++ bnd) <+: q := hbd ▸ hno
  repeat walk_at "my"
  refine We.swapped (names := ["lead", "ending"]) (fun _ => rfl) (fun env h => (swapped_scope (h.trans he)).trans (by kernel_rfl)) ?_
  repeat walk_at "my"
  refine call_fn x.dr.callee ?_
  repeat walk_at "my"
  refine draw_wc x.dr x.len (by decide) (by decide) T1 fun li μ2 l0 l1 T2 C2 => ?_
  have hb2 := C2 _ _ habt habc hb1
  clear T1 C2 hb1
  refine sub_tupB leadL l0 (by show li < (3 : Int); exact l1) (by decide) ?_
  have hlm : leadL.getD li.toNat [] ∈ leadL := getD_mem (tnl (n := 3) l0 l1)
  generalize leadL.getD li.toNat [] = lead at hlm ⊢
  obtain ⟨hlead, hleadl⟩ := leadL_ok bnd hbl0 lead hlm
  repeat walk_at "my"
  refine call_fn x.dr.callee ?_
  repeat walk_at "my"
  refine draw_wc x.dr x.len (by decide) (by decide) T2 fun en μ3 e0 e1 T3 C3 => ?_
  have hb3 := C3 _ _ habt habc hb2
  clear T2 C3 hb2
  repeat walk_at "my"
  refine ⟨few (Nat.le_of_ble_eq_true rfl), rfl, ?_⟩
  show Wn _ [("ending" : Str), "lead"] [.int en, .bytes lead] _ _ _
  refine Wn.cons (by walk_at "put") (fun h => nomatch h) (Wn.cons (by walk_at "put") (fun h => nomatch h) (Wn.nil ?_))
  repeat walk_at "my"
  refine We.swapped (names := ["data", "due"]) (fun _ => rfl) (fun env h => (swapped_scope (h.trans he)).trans (by kernel_rfl)) ?_
  repeat walk_at "my"
  refine Wp.list (Wl.nil ⟨few (Nat.le_of_ble_eq_true rfl), fun a0 ha0 => ?_⟩)
  repeat walk_at "my"
  refine ⟨few (Nat.le_of_ble_eq_true rfl), rfl, ?_⟩
  show Wn _ [("due" : Str), "data"] [.ref a0, .bytes lead] _ _ _
  refine Wn.cons (by walk_at "put") (fun h => nomatch h) (Wn.cons (by walk_at "put") (fun h => nomatch h) (Wn.nil ?_))
  have h0n := T3.ne ha0
  have T4 := T3.ext (Ext.upd (xs := []) ha0)
  have hb4 : upd μ3 a0 [] ab = some (bodies.map D.bytes) := upd_some hb3 ha0
  have h0ab : a0 ≠ ab := fun z => by rw [z, hb3] at ha0; cases ha0
  have hdu : upd μ3 a0 [] a0 = some (([] : List (Int × Int)).map pairD) := upd_same _ _ _
  generalize upd μ3 a0 [] = μ4 at T4 hb4 hdu ⊢
  clear T3 hb3 ha0
  repeat walk_at "my"
  refine We.for_ (fun _ _ => rfl) (Wit.list ?_)
  repeat walk_at "my"
  refine ⟨_, .led hb4, rrJ t c ab a0 bodies j bnd lead en,
    ⟨[], none, none, none, none, none, by simp [flatP], (fun _ h => nomatch h), by simp [flatP], rfl, T4, hb4, hdu⟩, ?_, ?_, ?_⟩
  · intro i ds μ' hJ; exact rrJ.elim (P := fun _ => Lis _ _ _ _) hJ fun ps o1 o2 o3 o4 o5 _ _ _ _ h _ => .led h
  · intro i d' ds1 μ5 hx hJ
    refine rrJ.elim hJ fun ps o1 o2 o3 o4 o5 hps hfl hpl T5 hb5 hd5 => ?_
    clear hJ
    refine map_get hx fun b q => ?_
    · clear hx
      obtain ⟨hi, hq⟩ := List.getElem?_eq_some_iff.mp q
      have hbm := List.mem_of_getElem? q
      have hbz := hz b hbm
      have hbn := hno b hbm
      repeat walk_at "my"
      refine call_fn x.dr.callee ?_
      repeat walk_at "my"
      refine draw_wc x.dr x.len (by decide) (by decide) T5 fun dr μ6 r0 r1 T6 C6 => ?_
      have hb6 := C6 _ _ habt habc hb5
      have hd6 := C6 _ _ h0n.1 h0n.2 hd5
      clear T5 C6 hb5 hd5
      repeat walk_at "my"
      refine W2.mod_int (by decide) ?_
      have w0 : 0 ≤ dr.fmod 4 := Int.fmod_nonneg_of_pos _ (by decide)
      have w1 : dr.fmod 4 < 4 := Int.fmod_lt_of_pos _ (by decide)
      refine sub_tupB whiteL w0 (by show dr.fmod 4 < (4 : Int); exact w1) (by decide) ?_
      have hwm : whiteL.getD (dr.fmod 4).toNat [] ∈ whiteL := getD_mem (tnl (n := 4) w0 w1)
      generalize whiteL.getD (dr.fmod 4).toNat [] = w at hwm ⊢
      obtain ⟨hwb, hwl⟩ := white_ok w hwm
      repeat walk_at "my"
      generalize hdat : lead ++ flatP ([45, 45] ++ bnd) ps = dat
      have hi3 : i ≤ 3 := Nat.le_of_lt_succ (Nat.lt_of_lt_of_le hi hbl)
      have hdl : dat.length ≤ 3 + 1020 * i := by rw [← hdat]; exact app_sz hleadl hfl
      have hdl2 : dat.length ≤ 3 + 1020 * 3 := Nat.le_trans hdl (Nat.add_le_add_left (Nat.mul_le_mul_left _ hi3) _)
      refine W2.add_sz hdl2 (Nat.le_refl 2) rfl fun z1 => ?_
      repeat walk_at "my"
      refine W2.add_sz z1 hbl8 rfl fun z2 => ?_
      repeat walk_at "my"
      refine W2.add_sz z2 hwl rfl fun z3 => ?_
      repeat walk_at "my"
      refine W2.div_int (by decide) (by decide) ?_
      repeat walk_at "my"
      refine W2.mod_int (by decide) ?_
      have f0 : 0 ≤ (dr.fdiv 4).fmod 2 := Int.fmod_nonneg_of_pos _ (by decide)
      have f1 : (dr.fdiv 4).fmod 2 < 2 := Int.fmod_lt_of_pos _ (by decide)
      refine sub_tupB eolR f0 (by show (dr.fdiv 4).fmod 2 < (2 : Int); exact f1) (by decide) ?_
      have hem : eolR.getD ((dr.fdiv 4).fmod 2).toNat [] ∈ eolR := getD_mem (tnl (n := 2) f0 f1)
      generalize eolR.getD ((dr.fdiv 4).fmod 2).toNat [] = el at hem ⊢
      obtain ⟨heo, hel⟩ := eolR_ok el hem
      refine W2.add_sz z3 hel rfl fun z4 => ?_
      have h1e : dat ++ [45, 45] ++ bnd ++ w ++ el = dat ++ (([45, 45] ++ bnd) ++ w ++ el) := by simp only [List.append_assoc]
      have h1l : (dat ++ [45, 45] ++ bnd ++ w ++ el).length = dat.length + (([45, 45] ++ bnd) ++ w ++ el).length := by rw [h1e, List.length_append]
      have h1m : (([45, 45] ++ bnd) ++ w ++ el).length ≤ 2 + 8 + 2 + 2 := app_sz (app_sz (app_sz (Nat.le_refl 2) hbl8) hwl) hel
      generalize dat ++ [45, 45] ++ bnd ++ w ++ el = da1 at h1l h1e z4 ⊢
      repeat walk_at "my"
      refine Wc.len_sz z4 rfl ?_
      repeat walk_at "my"
      refine W2.div_int (by decide) (by decide) ?_
      repeat walk_at "my"
      refine W2.mod_int (by decide) ?_
      repeat walk_at "my"
      generalize ((dr.fdiv 8).fmod 3 == 0) = sd
      obtain ⟨p, hp⟩ : ∃ p : Part, p = ⟨w, el, if sd = true then none else some (b, if dr.fdiv 24 = 1 ∧ ¬ (b.getLast? = some 13) then [10] else [13, 10])⟩ := ⟨_, rfl⟩
      have hpw : p.w = w := by rw [hp]
      have hpe : p.e = el := by rw [hp]
      have hpB : partB ([45, 45] ++ bnd) p = (([45, 45] ++ bnd) ++ w ++ el) ++ p.body := by unfold partB; rw [hpw, hpe]
      have hpok : PartOk bnd p := by
        refine ⟨hpw ▸ hwb, hpe ▸ heo, fun b' e' h => ?_⟩
        rw [hp] at h
        cases sd with
        | true => cases h
        | false =>
          cases h
          refine ⟨?_, hbn⟩
          split
          · exact .inr ⟨rfl, by rename_i h; exact h.2⟩
          · exact .inl rfl
      have hpbl : p.body.length ≤ 1002 ∧ p.bl ≤ 1000 := by
        rw [hp]
        cases sd with
        | true => exact ⟨by simp [Part.body], by simp [Part.bl]⟩
        | false =>
          refine ⟨?_, by simpa [Part.bl] using hbz⟩
          show (b ++ _).length ≤ 1002
          exact app_sz hbz (eol_le (dr.fdiv 24 = 1 ∧ ¬ (b.getLast? = some 13)))
      refine ref_of hd6 (Wl.cons (fun _ => rfl) (Wp.tuple (Wl.cons (fun _ => rfl) (Wp.name (by repeat (first | exact Has.head | apply Has.tail)) (Wl.cons (fun _ => rfl) (Wp.mono (K := fun d μ' => d = .int (((da1.length + p.bl : Nat) : Int)) ∧ μ6 = μ') ?_ ?_))))))
      · cases sd with
        | true =>
          repeat walk_at "my"
          exact ⟨by rw [hp]; rfl, rfl⟩
        | false =>
          repeat walk_at "my"
          refine Wc.len_sz hbz rfl ?_
          repeat walk_at "my"
          exact ⟨by rw [hp]; rfl, rfl⟩
      rintro _ _ ⟨rfl, rfl⟩
      repeat walk_at "my"
      refine Wc.append hd6 (by rw [List.length_map, duesR_len, hpl]; exact few_sz hi3 rfl) ?_
      have hd7 : upd μ6 a0 ((duesR ([45, 45] ++ bnd) lead.length ps).map pairD ++ [D.tup [.int (da1.length : Int), .int (((da1.length + p.bl : Nat) : Int))]]) a0 = some ((duesR ([45, 45] ++ bnd) lead.length (ps ++ [p])).map pairD) := by
        have hoff : lead.length + (flatP ([45, 45] ++ bnd) ps).length = dat.length := by rw [← hdat, List.length_append]
        have hs : duesR ([45, 45] ++ bnd) dat.length [p] = [((da1.length : Int), ((da1.length + p.bl : Nat) : Int))] := by rw [duesR, hpw, hpe, ← h1l]; rfl
        rw [upd_same, duesR_snoc, List.map_append, hoff, hs]
        rfl
      have hb7 : upd μ6 a0 ((duesR ([45, 45] ++ bnd) lead.length ps).map pairD ++ [D.tup [.int (da1.length : Int), .int (((da1.length + p.bl : Nat) : Int))]]) ab = some (bodies.map D.bytes) := (upd_ne _ _ (Ne.symm h0ab)).trans hb6
      have T7 : TapeAt (upd μ6 a0 ((duesR ([45, 45] ++ bnd) lead.length ps).map pairD ++ [D.tup [.int (da1.length : Int), .int (((da1.length + p.bl : Nat) : Int))]])) t c := T6.upd h0n.1 h0n.2
      generalize upd μ6 a0 ((duesR ([45, 45] ++ bnd) lead.length ps).map pairD ++ [D.tup [.int (da1.length : Int), .int (((da1.length + p.bl : Nat) : Int))]]) = μ7 at T7 hb7 hd7 ⊢
      clear T6 hb6 hd6
      refine none_go (thenK_next (Ws.cons (We.mono (K := fun g ds μ' => g = .next ∧ ds = [some (.ref t), some (.ref ab), some (.str (bStr j)), some (.bytes bnd), some (.bytes lead), some (.int en), some (.bytes (da1 ++ p.body)), some (.ref a0), some (.bytes b), some (.int dr), some (.bytes w), some (.int da1.length), some (.bool sd), none, none, none, none, none] ∧ μ7 = μ') ?_ ?_)))
      · cases sd with
        | true =>
          repeat walk_at "my"
          have hb0 : p.body = [] := by rw [hp]; rfl
          rw [hb0, List.append_nil]
          refine ite_of (fun h => absurd h (by decide)) fun _ => Ws.nil ⟨rfl, rfl, rfl⟩
        | false =>
          repeat walk_at "my"
          refine ite_of (fun _ => ?_) fun h => absurd rfl h
          repeat walk_at "my"
          refine W2.add_sz z4 hbz rfl fun z5 => ?_
          have hb0 : p.body = b ++ (if dr.fdiv 24 = 1 ∧ ¬ (b.getLast? = some 13) then [10] else [13, 10]) := by rw [hp]; rfl
          refine Wp.mono (K := fun d μ' => d = .bytes (if dr.fdiv 24 = 1 ∧ ¬ (b.getLast? = some 13) then [10] else [13, 10]) ∧ μ7 = μ') ?_ ?_
          · repeat walk_at "my"
            refine W2.div_int (by decide) (by decide) ?_
            repeat walk_at "my"
            refine ite_of (fun hc => ?_) fun hc => ?_
            · repeat walk_at "my"
              refine ⟨le_sz hbz rfl, ?_⟩
              repeat walk_at "my"
              refine W1.neg_int ?_
              repeat walk_at "my"
              refine ite_of (fun hd => ?_) fun hd => ?_
              · have hd : ¬ b.getLast? = some 13 := fun z => by
                  have := (cut_last b).mpr z
                  rw [show ((-1 : Int)) = -1 from rfl] at this
                  simp [this] at hd
                repeat walk_at "my"
                exact ⟨by rw [if_pos ⟨by simpa using hc, hd⟩], rfl⟩
              · have hd : b.getLast? = some 13 := (cut_last b).mp (by simpa using hd)
                repeat walk_at "my"
                exact ⟨by rw [if_neg fun z => z.2 hd], rfl⟩
            · repeat walk_at "my"
              exact ⟨by rw [if_neg fun z => hc (by simpa using z.1)], rfl⟩
          · rintro _ _ ⟨rfl, rfl⟩
            refine W2.add_sz z5 (eol_le (dr.fdiv 24 = 1 ∧ ¬ (b.getLast? = some 13))) rfl fun _ => ?_
            rw [hb0]
            repeat walk_at "my"
            exact ⟨rfl, by rw [List.append_assoc], rfl⟩
      rintro g ds2 μ8 ⟨rfl, rfl, rfl⟩
      repeat walk_at "my"
      refine call_fn x.ps.bw.f.callee ?_
      repeat walk_at "my"
      refine W2.add_sz (Nat.le_refl 2) hbl8 rfl fun y1 => ?_
      repeat walk_at "my"
      refine W2.add_sz y1 hwl rfl fun y2 => ?_
      repeat walk_at "my"
      refine bw_wc x.ps.bw (le_sz y2 rfl) (le_sz hbl8 rfl) ?_
      rw [wayK_next hwb]
      repeat walk_at "my"
      refine ite_of (fun hc => absurd hc (by decide +kernel)) fun _ => ?_
      repeat walk_at "my"
      refine call_fn x.ps.bw.f.callee ?_
      repeat walk_at "my"
      refine W2.add_sz (Nat.le_refl 2) hbl8 rfl fun _ => ?_
      repeat walk_at "my"
      refine W2.add_sz y1 (Nat.le_refl 2) rfl fun y3 => ?_
      repeat walk_at "my"
      refine W2.add_sz y3 hwl rfl fun y4 => ?_
      repeat walk_at "my"
      refine bw_wc x.ps.bw (le_sz y4 rfl) (le_sz hbl8 rfl) ?_
      rw [List.append_assoc, wayK_last hwb]
      repeat walk_at "my"
      refine ite_of (fun hc => absurd hc (by decide +kernel)) fun _ => ?_
      repeat walk_at "my"
      have hnew : da1 ++ p.body = lead ++ flatP ([45, 45] ++ bnd) (ps ++ [p]) := by rw [flatP_snoc, hpB, h1e, ← hdat]; simp
      rw [hnew]
      refine ⟨ps ++ [p], _, _, _, _, _, rfl, fun r hr => ?_, ?_, by simp [hpl], T7, hb7, hd7⟩
      · rcases List.mem_append.mp hr with hr | hr
        · exact hps r hr
        · rw [List.mem_singleton.mp hr]; exact hpok
      · rw [flatP_snoc, hpB]
        exact Nat.le_trans (app_sz hfl (app_sz h1m hpbl.1)) (Nat.add_le_add_left (by decide : 2 + 8 + 2 + 2 + 1002 ≤ 1020) _)
  · intro ds1 μ5 hJ
    refine rrJ.elim hJ fun ps o1 o2 o3 o4 o5 hps hfl hpl T5 hb5 hd5 => ?_
    rw [List.length_map] at hfl
    exact rr_tail x he hbb hbl8 hlead hleadl hps (Nat.le_trans hfl (Nat.le_trans (Nat.mul_le_mul_left 1020 hbl) (by decide))) T5 e0 e1 h0n.1 h0n.2 hd5 (by rw [hpl, List.length_map]; omega) k
/-! ## The plain law of the lines that begin so -/
theorem prefix_line {m p r : List UInt8} (hm : ∀ x ∈ m, x ≠ 10) : m <+: p ++ 10 :: r ↔ m <+: p := by
  constructor
  · intro h
    rcases Nat.lt_or_ge p.length m.length with hl | hl
    · exfalso
      have h2 : p ++ [10] <+: p ++ 10 :: r := ⟨r, by simp⟩
      have h3 : p ++ [10] <+: m := List.prefix_of_prefix_length_le h2 h (by simp; omega)
      exact hm 10 (h3.subset (by simp)) rfl
    · exact List.prefix_of_prefix_length_le h (List.prefix_append p (10 :: r)) hl
  · exact fun h => h.trans (List.prefix_append p (10 :: r))
theorem take_beq {m l : List UInt8} : (l.take m.length == m) = true ↔ m <+: l := by
  rw [beq_iff_eq, List.prefix_iff_eq_take]
  exact eq_comm
noncomputable abbrev atM (data m : List UInt8) (t : Nat × Nat × Nat) : Bool := cut data (some (t.1 : Int)) (some ((t.1 : Int) + m.length)) == m
theorem atM_iff {data m rest : List UInt8} {off a b : Nat} (h : data.drop off = rest) : atM data m (off, a, b) = true ↔ m <+: rest := by
  unfold atM
  rw [← Int.natCast_add, cut_mid, h, Nat.add_sub_cancel_left]
  exact take_beq
theorem spnA_any {data m : List UInt8} (hm : ∀ x ∈ m, x ≠ 10) : ∀ (ps : List (List UInt8)) (off : Nat) (tail : List UInt8), data.drop off = lfs ps ++ tail → ((spnA off ps).any (atM data m) = true ↔ ∃ p ∈ ps, m <+: p)
  | [], _, _, _ => by simp [spnA]
  | p :: ps, off, tail, h => by
    have h1 : data.drop off = p ++ 10 :: (lfs ps ++ tail) := by rw [h]; simp [lfs]
    have h2 : data.drop (off + p.length + 1) = lfs ps ++ tail := by
      rw [← List.drop_drop, drop_next h1]; rfl
    have ih := spnA_any hm ps (off + p.length + 1) tail h2
    rw [spnA, List.any_cons, Bool.or_eq_true, ih, atM_iff h1, prefix_line hm]
    simp
theorem begins_iff {b m : List UInt8} (hm : ∀ x ∈ m, x ≠ 10) (h0 : m ≠ []) : begins b m = true ↔ ∃ p ∈ splitB 10 b, m <+: p := by
  unfold begins
  rw [spans_split b b.length (Nat.le_refl _) b.length 0 (Nat.zero_le _) (Nat.le_refl _), List.drop_zero, Nat.sub_zero, List.take_length]
  obtain ⟨ini, p, h1, h2⟩ := splitB_lastp b
  rw [h1, spn_append (by simp), Nat.zero_add, List.any_append, Bool.or_eq_true]
  have h3 := spnA_any (data := b) hm ini 0 p (by rw [List.drop_zero]; exact h2)
  have h4 : b.drop (lfs ini).length = p := by
    have := congrArg (List.drop (lfs ini).length) h2
    rw [List.drop_left] at this
    exact this
  have h5 : (spn (lfs ini).length [p]).any (atM b m) = true ↔ m <+: p := by
    unfold spn
    split
    · rename_i hp
      subst hp
      simp [h0]
    · rw [List.any_cons, List.any_nil, Bool.or_false]
      exact atM_iff h4
  refine Iff.trans (or_congr h3 h5) ?_
  simp only [List.mem_append, List.mem_singleton]
  constructor
  · rintro (⟨q, hq, h⟩ | h)
    · exact ⟨q, .inl hq, h⟩
    · exact ⟨p, .inr rfl, h⟩
  · rintro ⟨q, hq | rfl, h⟩
    · exact .inl ⟨q, hq, h⟩
    · exact .inr h

/-! ## The numbers that a line hinders -/
theorem mark_facts : ((List.range 20).all fun j => markB j == lead8 ++ (if j < 10 then [(48 + j).toUInt8] else [49, (38 + j).toUInt8])) = true := by decide +kernel
theorem mark_eq {j : Nat} (h : j < 20) : markB j = lead8 ++ (if j < 10 then [(48 + j).toUInt8] else [49, (38 + j).toUInt8]) := by
  have := List.all_eq_true.mp mark_facts j (List.mem_range.mpr h)
  simpa using this
theorem mark_no10 {j : Nat} (h : j < 20) : ∀ x ∈ markB j, x ≠ 10 := fun x hx => by
  unfold markB at hx
  rcases List.mem_append.mp hx with hx | hx
  · simp at hx; subst hx; decide
  · exact (bare_ok h x hx).1
theorem mark_ne (j : Nat) : markB j ≠ [] := by simp [markB]
theorem hl_ge {d : Nat} (h : 48 ≤ d) (t : Nat) : 10 * t ≤ 10 * t + d - 48 := by rw [Nat.add_sub_assoc h]; exact Nat.le_add_right _ _
theorem hlR_ge (line : List UInt8) : ∀ (k i t n : Nat), n ∈ hlR line k i t → 10 * t ≤ n
  | 0, _, _, _, h => by simp [hlR] at h
  | k + 1, i, t, n, h => by
    unfold hlR at h
    split at h
    · cases h
    · rename_i hc
      have hv : 48 ≤ (line.getD i 0).toNat := by
        have : ¬ ¬ (48 ≤ (line.getD i 0).toNat ∧ (line.getD i 0).toNat ≤ 57) := fun z => hc (.inr (.inl z))
        exact (Classical.not_not.mp this).1
      rcases List.mem_cons.mp h with h | h
      · rw [h]; exact hl_ge hv t
      · exact Nat.le_trans (hl_ge hv t) (Nat.le_trans (Nat.le_mul_of_pos_left _ (by decide)) (hlR_ge line k (i + 1) _ n h))
theorem getD_8 (r : List UInt8) (i : Nat) : (lead8 ++ r).getD (8 + i) 0 = r.getD i 0 := by
  rw [List.getD_eq_getElem?_getD, List.getD_eq_getElem?_getD, List.getElem?_append_right (by simp)]
  congr 2
  simp
theorem u8 {a b : UInt8} (h : a.toNat = b.toNat) : a = b := UInt8.toNat_inj.mp h
theorem u8n {n : Nat} (h : n < 256) : (n.toUInt8).toNat = n := by
  exact Nat.mod_eq_of_lt h
noncomputable def dig (v : UInt8) : Prop := 48 ≤ v.toNat ∧ v.toNat ≤ 57
theorem hlR_step {line : List UInt8} (hl : line.take 8 = lead8) (k i t : Nat) {v w : UInt8} (hv : line.getD i 0 = v) (hw : line.getD 8 0 = w) (h : dig v ∧ ¬ (i > 8 ∧ w.toNat = 48)) :
    hlR line (k + 1) i t = (10 * t + v.toNat - 48) :: hlR line k (i + 1) (10 * t + v.toNat - 48) := by
  rw [hlR, hv, hw, if_neg]
  rintro (h1 | h1 | h1)
  · exact h1 hl
  · exact h1 h.1
  · exact h.2 h1
theorem hlR_stop {line : List UInt8} (k i t : Nat) {v w : UInt8} (hv : line.getD i 0 = v) (hw : line.getD 8 0 = w) (h : ¬ (dig v ∧ ¬ (i > 8 ∧ w.toNat = 48))) : hlR line (k + 1) i t = [] := by
  rw [hlR, hv, hw, if_pos]
  by_cases h1 : dig v
  · exact .inr (.inr (Classical.not_not.mp fun z => h ⟨h1, z⟩))
  · exact .inr (.inl h1)
theorem hl_lead (r : List UInt8) : hindLine (lead8 ++ r) = hlR (lead8 ++ r) r.length 8 0 := by
  unfold hindLine
  rw [List.length_append]
  congr 1
  exact Nat.add_sub_cancel_left 8 r.length
theorem b48 {j : Nat} (hj : j < 20) : 48 + j < 256 := Nat.lt_of_lt_of_le (Nat.add_lt_add_left hj 48) (by decide)
theorem b38 {j : Nat} (hj : j < 20) : 38 + j < 256 := Nat.lt_of_lt_of_le (Nat.add_lt_add_left hj 38) (by decide)
theorem b20 {j : Nat} (hj : j < 10) : j < 20 := Nat.lt_of_lt_of_le hj (by decide)
theorem z10 (a : Nat) : 10 * 0 + a = a := by rw [Nat.mul_zero, Nat.zero_add]
theorem ten_le {x y : UInt8} (hx : dig x) (h0 : ¬ x.toNat = 48) (hy : dig y) : 10 ≤ 10 * (10 * 0 + x.toNat - 48) + y.toNat - 48 :=
  Nat.le_trans (Nat.mul_le_mul_left 10 (show 1 ≤ 10 * 0 + x.toNat - 48 by rw [z10]; exact Nat.sub_pos_of_lt (Nat.lt_of_le_of_ne hx.1 (Ne.symm h0)))) (hl_ge hy.1 _)
theorem big_le {d j : Nat} (h : 10 ≤ d) (h2 : 10 * d ≤ j) : ¬ j < 20 := fun z => absurd (Nat.lt_of_le_of_lt (Nat.le_trans (Nat.mul_le_mul_left 10 h) h2) z) (by decide)
theorem one_iff {x : UInt8} {j : Nat} (hx : dig x) (hj : j < 10) : j = 10 * 0 + x.toNat - 48 ↔ (48 + j).toUInt8 = x := by
  rw [z10]
  constructor
  · intro h
    exact u8 (by rw [u8n (b48 (b20 hj)), h]; exact Nat.add_sub_cancel' hx.1)
  · intro h
    rw [← h, u8n (b48 (b20 hj)), Nat.add_sub_cancel_left]
theorem dig2 {X Y j : Nat} (h1 : 48 < X) (h2 : 48 ≤ Y) (hj : j < 20) (h : j = 10 * (10 * 0 + X - 48) + Y - 48) : 49 = X ∧ 38 + j = Y := by
  rw [z10] at h
  have h3 : X - 48 < 2 := Nat.lt_of_mul_lt_mul_left (Nat.lt_of_le_of_lt (hl_ge h2 (X - 48)) (h ▸ hj) : 10 * (X - 48) < 10 * 2)
  have h4 : X = 49 := Nat.le_antisymm (Nat.sub_le_iff_le_add.mp (Nat.le_of_lt_succ h3)) h1
  subst h4
  refine ⟨rfl, ?_⟩
  rw [h, show 10 * (49 - 48) + Y - 48 = Y - 38 from Nat.add_sub_add_left 10 Y 38, Nat.add_sub_cancel' (Nat.le_trans (by decide) h2)]
theorem two_fwd {x y : UInt8} {j : Nat} (hx : dig x) (hy : dig y) (h0 : ¬ x.toNat = 48) (hj : j < 20) (h : j = 10 * (10 * 0 + x.toNat - 48) + y.toNat - 48) : (49 : UInt8) = x ∧ (38 + j).toUInt8 = y :=
  have q := dig2 (Nat.lt_of_le_of_ne hx.1 (Ne.symm h0)) hy.1 hj h
  ⟨u8 q.1, u8 (by rw [u8n (b38 hj)]; exact q.2)⟩
theorem two_bwd {x y : UInt8} {j : Nat} (hj : j < 20) (h10 : ¬ j < 10) (h1 : (49 : UInt8) = x) (h2 : (38 + j).toUInt8 = y) : dig x ∧ dig y ∧ ¬ x.toNat = 48 ∧ j = 10 * (10 * 0 + x.toNat - 48) + y.toNat - 48 := by
  have hy : y.toNat = 38 + j := by rw [← h2, u8n (b38 hj)]
  have hx : x.toNat = 49 := by rw [← h1]; rfl
  unfold dig
  rw [hx, hy]
  refine ⟨by decide, ⟨Nat.add_le_add_left (Nat.not_lt.mp h10) 38, Nat.add_le_add_left (Nat.le_of_lt_succ hj) 38⟩, by decide, ?_⟩
  rw [← Nat.add_assoc]
  exact (Nat.add_sub_cancel_left 48 j).symm
theorem one_dig {x : UInt8} {j : Nat} (hj : j < 10) (h : (48 + j).toUInt8 = x) : dig x := by
  unfold dig
  rw [← h, u8n (b48 (b20 hj))]
  exact ⟨Nat.le_add_right _ _, Nat.add_le_add_left (Nat.le_of_lt_succ hj) 48⟩
theorem small10 {x : UInt8} {j : Nat} (hx : dig x) (h : j = 10 * 0 + x.toNat - 48) : j < 10 := by
  rw [h, z10]
  exact Nat.lt_succ_of_le (Nat.sub_le_sub_right hx.2 48)
theorem second_mem {x : UInt8} {r : List UInt8} {j : Nat} (hx : dig x) (h : j ∈ hlR (lead8 ++ x :: r) r.length (8 + 1) (10 * 0 + x.toNat - 48)) (hj : j < 20) : ∃ y r', r = y :: r' ∧ dig y ∧ ¬ x.toNat = 48 ∧ j = 10 * (10 * 0 + x.toNat - 48) + y.toNat - 48 := by
  cases r with
  | nil => cases h
  | cons y r =>
    rw [List.length_cons] at h
    by_cases hc : dig y ∧ ¬ (8 + 1 > 8 ∧ x.toNat = 48)
    · have hx48 : ¬ x.toNat = 48 := fun z => hc.2 ⟨by decide, z⟩
      rw [hlR_step rfl _ _ _ (getD_8 (x :: y :: r) 1) (getD_8 (x :: y :: r) 0) hc] at h
      rcases List.mem_cons.mp h with h | h
      · exact ⟨y, r, rfl, hc.1, hx48, h⟩
      · exact absurd hj (big_le (ten_le hx hx48 hc.1) (hlR_ge _ _ _ _ _ h))
    · rw [hlR_stop _ _ _ (getD_8 (x :: y :: r) 1) (getD_8 (x :: y :: r) 0) hc] at h
      cases h
theorem first_iff {x : UInt8} {r : List UInt8} {j : Nat} : j ∈ hindLine (lead8 ++ x :: r) ↔ dig x ∧ (j = 10 * 0 + x.toNat - 48 ∨ j ∈ hlR (lead8 ++ x :: r) r.length (8 + 1) (10 * 0 + x.toNat - 48)) := by
  rw [hl_lead, List.length_cons]
  by_cases hx : dig x
  · rw [hlR_step rfl _ _ _ (getD_8 (x :: r) 0) (getD_8 (x :: r) 0) ⟨hx, fun z => absurd z.1 (by decide)⟩, List.mem_cons]
    exact ⟨fun h => ⟨hx, h⟩, fun h => h.2⟩
  · rw [hlR_stop _ _ _ (getD_8 (x :: r) 0) (getD_8 (x :: r) 0) fun z => hx z.1]
    exact ⟨(fun h => nomatch h), fun h => absurd h.1 hx⟩
theorem hindLine_iff {p : List UInt8} {j : Nat} (hj : j < 20) : j ∈ hindLine p ↔ markB j <+: p := by
  rw [mark_eq hj]
  by_cases hl : p.take 8 = lead8
  · obtain ⟨r, rfl⟩ : ∃ r, p = lead8 ++ r := ⟨p.drop 8, by rw [← hl, List.take_append_drop]⟩
    rw [List.prefix_append_right_inj]
    cases r with
    | nil =>
      rw [hl_lead]
      constructor
      · intro h; cases h
      · intro h
        split at h
        · cases List.prefix_nil.mp h
        · cases List.prefix_nil.mp h
    | cons x r =>
      rw [first_iff]
      by_cases h10 : j < 10
      · rw [if_pos h10]
        constructor
        · rintro ⟨hx, h | h⟩
          · rw [(one_iff hx h10).mp h]; exact ⟨r, rfl⟩
          · obtain ⟨y, r', rfl, hy, h0, e⟩ := second_mem hx h hj
            exact absurd (e ▸ ten_le hx h0 hy) (Nat.not_le.mpr h10)
        · intro h
          have h1 := (List.cons_prefix_cons.mp h).1
          have hx := one_dig h10 h1
          exact ⟨hx, .inl ((one_iff hx h10).mpr h1)⟩
      · rw [if_neg h10]
        constructor
        · rintro ⟨hx, h | h⟩
          · exact absurd (small10 hx h) h10
          · obtain ⟨y, r', rfl, hy, h0, e⟩ := second_mem hx h hj
            obtain ⟨h1, h2⟩ := two_fwd hx hy h0 hj e
            rw [h1, h2]; exact ⟨r', rfl⟩
        · intro h
          have h1 := List.cons_prefix_cons.mp h
          cases r with
          | nil => cases List.prefix_nil.mp h1.2
          | cons y r =>
            have h2 := List.cons_prefix_cons.mp h1.2
            obtain ⟨hx, hy, h0, e⟩ := two_bwd hj h10 h1.1 h2.1
            refine ⟨hx, .inr ?_⟩
            rw [List.length_cons, hlR_step rfl _ _ _ (getD_8 (x :: y :: r) 1) (getD_8 (x :: y :: r) 0) ⟨hy, fun z => h0 z.2⟩]
            exact List.mem_cons.mpr (.inl e)
  · constructor
    · intro h
      exfalso
      unfold hindLine at h
      cases hk : p.length - 8 with
      | zero => rw [hk] at h; simp [hlR] at h
      | succ k =>
        rw [hk, hlR, if_pos (.inl hl)] at h
        cases h
    · intro h
      exfalso
      apply hl
      obtain ⟨t, ht⟩ := h
      rw [← ht, List.append_assoc]
      rfl
theorem hind_iff {b : List UInt8} {j : Nat} (hj : j < 20) : j ∈ hind b ↔ ∃ p ∈ splitB 10 b, markB j <+: p := by
  unfold hind
  rw [List.mem_flatten]
  constructor
  · rintro ⟨l, hl, hjl⟩
    obtain ⟨p, hp, rfl⟩ := List.mem_map.mp hl
    exact ⟨p, hp, (hindLine_iff hj).mp hjl⟩
  · rintro ⟨p, hp, h⟩
    exact ⟨_, List.mem_map_of_mem hp, (hindLine_iff hj).mpr h⟩
theorem begins_hind {b : List UInt8} {j : Nat} (hj : j < 20) : begins b (markB j) = (hind b).any (· == j) := by
  have h1 := begins_iff (b := b) (mark_no10 hj) (mark_ne j)
  rw [← hind_iff hj] at h1
  cases q : begins b (markB j) with
  | true =>
    have := h1.mp q
    exact (List.any_eq_true.mpr ⟨j, this, by simp⟩).symm
  | false =>
    cases q2 : (hind b).any (· == j) with
    | false => rfl
    | true =>
      obtain ⟨y, hy, e⟩ := List.any_eq_true.mp q2
      have e : y = j := by simpa using e
      subst e
      rw [h1.mpr hy] at q; cases q
theorem no_prefix {b : List UInt8} {j : Nat} (hj : j < 20) (h : begins b (markB j) = false) : ∀ q ∈ splitB 10 b, ¬ markB j <+: q := fun q hq hp => by
  rw [(begins_iff (mark_no10 hj) (mark_ne j)).mpr ⟨q, hq, hp⟩] at h; cases h

/-! ## 14 is free -/
theorem no14_infix : ∀ (s t : List UInt8), no14 (s ++ [49, 52] ++ t) = false
  | [], t => by simp [no14]
  | x :: s, t => by
    have := no14_infix s t
    rw [List.cons_append, List.cons_append, no14, this, Bool.and_false]
theorem split_infix {b p : List UInt8} (h : p ∈ splitB 10 b) : ∃ s t, b = s ++ p ++ t := by
  obtain ⟨ini, q, h1, h2⟩ := splitB_lastp b
  rw [h1] at h
  rcases List.mem_append.mp h with h | h
  · obtain ⟨s, t, rfl⟩ := List.append_of_mem h
    refine ⟨lfs s, [10] ++ lfs t ++ q, ?_⟩
    rw [h2]
    simp [lfs]
  · rw [List.mem_singleton.mp h]
    exact ⟨lfs ini, [], by rw [h2]; simp⟩
theorem mark14 : markB 14 = lead8 ++ [49, 52] := by decide +kernel
theorem free14 {b : List UInt8} (h : no14 b = true) : begins b (markB 14) = false := by
  cases q : begins b (markB 14) with
  | false => rfl
  | true =>
    obtain ⟨p, hp, r, hr⟩ := (begins_iff (mark_no10 (by decide)) (mark_ne 14)).mp q
    obtain ⟨s, t, e⟩ := split_infix hp
    rw [mark14] at hr
    rw [e, ← hr] at h
    have : s ++ (lead8 ++ [49, 52] ++ r) ++ t = (s ++ lead8) ++ [49, 52] ++ (r ++ t) := by simp
    rw [this, no14_infix] at h
    cases h
/-! ## the least free number -/
noncomputable def okN (bodies : List (List UInt8)) (j : Nat) : Bool := !bodies.any fun b => (hind b).any (· == j)
noncomputable def frees (bodies : List (List UInt8)) : List Nat := (List.range 20).filter (okN bodies)
theorem frees_head {bodies : List (List UInt8)} (h : ∀ b ∈ bodies, no14 b = true) : ∃ f, (frees bodies)[0]? = some f ∧ f < 20 ∧ (∀ b ∈ bodies, begins b (markB f) = false) ∧ ∀ j < f, bodies.any (begins · (markB j)) = true := by
  have key : ∀ j < 20, okN bodies j = !bodies.any (begins · (markB j)) := fun j hj => by
    unfold okN
    congr 2
    funext b
    exact (begins_hind hj).symm
  have h14 : okN bodies 14 = true := by
    rw [key 14 (by decide), Bool.not_eq_true', List.any_eq_false]
    intro b hb
    rw [free14 (h b hb)]
    decide
  have hh : (frees bodies)[0]? = (List.range 20).find? (okN bodies) := by
    rw [← List.head?_eq_getElem?]
    exact List.head?_filter
  cases q : (List.range 20).find? (okN bodies) with
  | none =>
    have := List.find?_eq_none.mp q 14 (by decide)
    rw [h14] at this
    exact absurd rfl this
  | some f =>
    obtain ⟨h1, h2, h3⟩ := List.find?_range_eq_some.mp q
    have hf : f < 20 := List.mem_range.mp h2
    refine ⟨f, by rw [hh, q], hf, fun b hb => ?_, fun j hj => ?_⟩
    · rw [key f hf, Bool.not_eq_true', List.any_eq_false] at h1
      have := h1 b hb
      simpa using this
    · have := h3 j hj
      rw [key j (by omega)] at this
      simpa using this

/-! ### law -/
theorem We.assign_sc {F : Fm} {ds : List (Option D)} {μ : Led} {K : Flw → List (Option D) → Led → Prop} {x : Str} {p' p : Pos} {e : Expr} (hs : ∀ env : Env, env.scope = F.e.scope → swapsWith e (some (.Name x p')) p.line env = pure false) (hx : x ∉ F.ro)
    (h : Wp F e ds μ fun d μ' => ∃ ds', Put F.ns ds x d ds' ∧ K .next ds' μ') : We F (.Assign [.Name x p'] e p) ds μ K := fun A h₀ s ok =>
  wpAny_Assign_Name (wpA (h A h₀ s ok) fun v s₁ p1 => by
    obtain ⟨st1, d, μ1, ⟨ds', hp, k1⟩, r1, S1⟩ := p1
    exact store_ok (ok.to S1) r1 hp hx fun s₂ st2 S2 => ⟨st1.trans st2, .next, ds', μ1, k1, .next, S2⟩) (hs _ rfl)
theorem kind_relabel {F : Fm} {scope : Scope} {e' : Env} (he' : e'.scope = relabel scope F.e) (hk : F.e.scope.kind = .function) (x : Str) (h : scope.names.lookup x = some .cell) : e'.kindOf x = some .cell := by
  have := lookup_relabel (scope := scope) hk scope.names x
  rw [h] at this
  unfold Env.kindOf
  rw [he']
  refine Eq.trans this ?_
  rfl
theorem num20 : ((List.range 20).all fun n => (numS n).cps.all (· < 128) && decide ((numS n).cps.size ≤ 2) && (lead8 ++ octs (numS n) == markB n)) = true := by decide +kernel
theorem num_20 {j : Nat} (h : j < 20) : (numS j).cps.all (· < 128) = true ∧ (numS j).cps.size ≤ 2 ∧ lead8 ++ octs (numS j) = markB j := by
  have := List.all_eq_true.mp num20 j (List.mem_range.mpr h)
  simp only [Bool.and_eq_true, decide_eq_true_eq, beq_iff_eq] at this
  exact ⟨this.1.1, this.1.2, this.2⟩
theorem any_cast (l : List Nat) (j : Nat) : ((l.map fun n : Nat => (n : Int)).any (· == (j : Int))) = l.any (· == j) := by
  rw [List.any_map]
  congr 1
  funext n
  show ((n : Int) == (j : Int)) = (n == j)
  by_cases h : n = j
  · subst h; rw [beq_self_eq_true, beq_self_eq_true]
  · have h2 : ¬ (n : Int) = (j : Int) := by omega
    rw [beq_eq_false_iff_ne.mpr h2, beq_eq_false_iff_ne.mpr h]
theorem natD_int (l : List Nat) : l.map natD = (l.map fun n : Nat => (n : Int)).map D.int := by simp
/-- the lists of the hindered numbers -/
noncomputable def HindAt (bodies : List (List UInt8)) (t c : Addr) (hs : List Addr) (μ : Led) : Prop := ∀ (i : Nat) (a : Addr) (b : List UInt8), hs[i]? = some a → bodies[i]? = some b → μ a = some ((hind b).map natD) ∧ a ≠ t ∧ a ≠ c
theorem HindAt.ext {bodies : List (List UInt8)} {t c : Addr} {hs : List Addr} {μ μ' : Led} (x : HindAt bodies t c hs μ) (h : Ext μ μ') : HindAt bodies t c hs μ' := fun i a b h1 h2 => ⟨h _ _ (x i a b h1 h2).1, (x i a b h1 h2).2⟩
theorem HindAt.chg {bodies : List (List UInt8)} {t c : Addr} {hs : List Addr} {μ μ' : Led} (x : HindAt bodies t c hs μ) (h : Chg t c μ μ') : HindAt bodies t c hs μ' := fun i a b h1 h2 => ⟨h _ _ (x i a b h1 h2).2.1 (x i a b h1 h2).2.2 (x i a b h1 h2).1, (x i a b h1 h2).2⟩
noncomputable abbrev lawNs : List Str := ["script", "tape", "bodies", "body", "hindered", "number", "some", "free", "boundary", "other", "gone", "rows"]
noncomputable abbrev lawGl : List Str := ["_law_tape", "_law_bodies", "range", "boundary_for", "str", "_law_draw", "zip", "begins_line", "bytes", "_law_joined_right", "_law_rough_right"]
theorem law_scope : okFn (scopeAt 22) lawNs lawGl = true := by decide +kernel
structure LibLaw (W : GW) (aLs aBl aBf aJb aBw aPs aTp aDr aLb aHd aJr aRr : Addr) : Prop where
  bf : LibBf W aLs aBl aBf
  tp : LibTp W aTp
  lb : LibLb W aDr aLb
  hd : LibHd W aHd
  jr : LibJr W aJb aLs aBw aPs aJr
  rr : LibRr W aDr aLs aBw aPs aRr
  tpd : GD W "_law_tape" (.ref aTp)
  lbd : GD W "_law_bodies" (.ref aLb)
  hdd : GD W "_law_hindered" (.ref aHd)
  bfd : GD W "boundary_for" (.ref aBf)
  jrd : GD W "_law_joined_right" (.ref aJr)
  rrd : GD W "_law_rough_right" (.ref aRr)
noncomputable abbrev lawGs (aBl aBf aTp aDr aLb aJr aRr : Addr) : List (Str × D) := [("_law_tape", .ref aTp), ("_law_bodies", .ref aLb), ("range", .val (.type "range")), ("boundary_for", .ref aBf), ("str", .val (.type "str")), ("_law_draw", .ref aDr),
  ("zip", .val (.type "zip")), ("begins_line", .ref aBl), ("bytes", .val (.type "bytes")), ("_law_joined_right", .ref aJr), ("_law_rough_right", .ref aRr)]
noncomputable abbrev lwC0 (t c ab : Addr) (bodies : List (List UInt8)) (i : Nat) (μ' : Led) (ys : List D) : Prop := TapeAt μ' t c ∧ μ' ab = some (bodies.map D.bytes) ∧ ∃ hs : List Addr, ys = hs.map D.ref ∧ hs.length = min i bodies.length ∧ HindAt bodies t c hs μ'
noncomputable abbrev lwC1 (μ4 : Led) (bodies : List (List UInt8)) (i : Nat) (μ' : Led) (ys : List D) : Prop := Ext μ4 μ' ∧ ys = ((List.range i).filter (okN bodies)).map natD
noncomputable abbrev lwC2 (μ4 : Led) (bodies : List (List UInt8)) (i k : Nat) (μ' : Led) (ys : List D) : Prop := Ext μ4 μ' ∧ ys = ((bodies.take k).filter fun b => (hind b).any (· == i)).map fun _ => D.int 1
noncomputable abbrev lwS (t c ab ah : Addr) (bodies : List (List UInt8)) (hs : List Addr) (μ' : Led) : Prop := TapeAt μ' t c ∧ μ' ab = some (bodies.map D.bytes) ∧ μ' ah = some (hs.map D.ref) ∧ HindAt bodies t c hs μ'
noncomputable abbrev lwJ (l t c ab ah : Addr) (bodies : List (List UInt8)) (hs : List Addr) (f ot : Nat) (_ : Nat) (ds : List (Option D)) (μ' : Led) : Prop := ∃ q1 q2 q3 : Option D, lwS t c ab ah bodies hs μ' ∧
    ds = [some (.ref l), some (.ref t), some (.ref ab), q1, some (.ref ah), q2, q3, some (natD f), some (.str (bStr f)), some (.int (ot : Int)), none, none]
@[elab_as_elim] theorem lwJ.elim {l t c ab ah : Addr} {bodies : List (List UInt8)} {hs : List Addr} {f ot i : Nat} {ds : List (Option D)} {μ' : Led} {P : List (Option D) → Prop} (h : lwJ l t c ab ah bodies hs f ot i ds μ')
    (k : ∀ q1 q2 q3 : Option D, TapeAt μ' t c → μ' ab = some (bodies.map D.bytes) → μ' ah = some (hs.map D.ref) → HindAt bodies t c hs μ' → P [some (.ref l), some (.ref t), some (.ref ab), q1, some (.ref ah), q2, q3, some (natD f), some (.str (bStr f)), some (.int (ot : Int)), none, none]) : P ds := by
  obtain ⟨q1, q2, q3, ⟨h1, h2, h3, h4⟩, rfl⟩ := h
  exact k q1 q2 q3 h1 h2 h3 h4
noncomputable abbrev lwJ2 (l t c ab ah a2 : Addr) (b : List UInt8) (bodies : List (List UInt8)) (hs : List Addr) (f ot : Nat) (_ : Nat) (ds : List (Option D)) (μ' : Led) : Prop := ∃ q2 : Option D, lwS t c ab ah bodies hs μ' ∧
    ds = [some (.ref l), some (.ref t), some (.ref ab), some (.bytes b), some (.ref ah), q2, some (.ref a2), some (natD f), some (.str (bStr f)), some (.int (ot : Int)), none, none]
@[elab_as_elim] theorem lwJ2.elim {l t c ab ah a2 : Addr} {b : List UInt8} {bodies : List (List UInt8)} {hs : List Addr} {f ot i : Nat} {ds : List (Option D)} {μ' : Led} {P : List (Option D) → Prop} (h : lwJ2 l t c ab ah a2 b bodies hs f ot i ds μ')
    (k : ∀ q2 : Option D, TapeAt μ' t c → μ' ab = some (bodies.map D.bytes) → μ' ah = some (hs.map D.ref) → HindAt bodies t c hs μ' → P [some (.ref l), some (.ref t), some (.ref ab), some (.bytes b), some (.ref ah), q2, some (.ref a2), some (natD f), some (.str (bStr f)), some (.int (ot : Int)), none, none]) : P ds := by
  obtain ⟨q2, ⟨h1, h2, h3, h4⟩, rfl⟩ := h
  exact k q2 h1 h2 h3 h4
noncomputable abbrev lwJ3 (μ14 : Led) (l t ab ah : Addr) (q1 q2 q3 : Option D) (f ot go : Nat) (_ : Nat) (ds : List (Option D)) (μ' : Led) : Prop := ∃ q4 : Option D, Ext μ14 μ' ∧
    ds = [some (.ref l), some (.ref t), some (.ref ab), q1, some (.ref ah), q2, q3, some (natD f), some (.str (bStr f)), some (.int (ot : Int)), some (.int (go : Int)), q4]
@[elab_as_elim] theorem lwJ3.elim {μ14 : Led} {l t ab ah : Addr} {q1 q2 q3 : Option D} {f ot go i : Nat} {ds : List (Option D)} {μ' : Led} {P : List (Option D) → Prop} (h : lwJ3 μ14 l t ab ah q1 q2 q3 f ot go i ds μ')
    (k : ∀ q4 : Option D, Ext μ14 μ' → P [some (.ref l), some (.ref t), some (.ref ab), q1, some (.ref ah), q2, q3, some (natD f), some (.str (bStr f)), some (.int (ot : Int)), some (.int (go : Int)), q4]) : P ds := by
  obtain ⟨q4, h1, rfl⟩ := h
  exact k q4 h1
theorem two_nat {α : Type} {x y d : α} {k : Nat} (h : [x, y][k]? = some d) : d = x ∨ d = y := by
  match k with
  | 0 => cases h; exact .inl rfl
  | 1 => cases h; exact .inr rfl
  | k + 2 => simp at h
theorem three_nat {α : Type} {x y z d : α} {k : Nat} (h : [x, y, z][k]? = some d) : d = x ∨ d = y ∨ d = z := by
  match k with
  | 0 => cases h; exact .inl rfl
  | 1 => cases h; exact .inr (.inl rfl)
  | 2 => cases h; exact .inr (.inr rfl)
  | k + 3 => simp at h
theorem rows_of {ab a3 a4 : Addr} {μ : Led} {bodies : List (List UInt8)} {go k : Nat} {d : D} (hx : [D.ref ab, D.ref a3, D.ref a4][k]? = some d) (hb : μ ab = some (bodies.map D.bytes)) (l3 : μ a3 = some ((bodies.take go ++ bodies.drop (go + 1)).map D.bytes)) (l4 : μ a4 = some []) (hbl : bodies.length ≤ 4) :
    ∃ (a5 : Addr) (rows : List (List UInt8)), d = .ref a5 ∧ μ a5 = some (rows.map D.bytes) ∧ (∀ b ∈ rows, b ∈ bodies) ∧ rows.length ≤ 4 := by
  rcases three_nat hx with rfl | rfl | rfl
  · exact ⟨ab, bodies, rfl, hb, fun _ h => h, hbl⟩
  · refine ⟨a3, _, rfl, l3, fun b h => ?_, by rw [List.length_append, List.length_take, List.length_drop]; exact Nat.le_trans row_few hbl⟩
    rcases List.mem_append.mp h with h | h
    · exact List.mem_of_mem_take h
    · exact List.mem_of_mem_drop h
  · exact ⟨a4, [], rfl, l4, (fun _ h => nomatch h), by decide⟩
theorem HindAt.snoc {bodies : List (List UInt8)} {t c : Addr} {hs : List Addr} {i : Nat} {b : List UInt8} {ah : Addr} {μ : Led} (H : HindAt bodies t c hs μ) (hl : hs.length = min i bodies.length) (q : bodies[i]? = some b) (h1 : μ ah = some ((hind b).map natD)) (hn : ah ≠ t ∧ ah ≠ c) :
    HindAt bodies t c (hs ++ [ah]) μ ∧ (hs ++ [ah]).length = min (i + 1) bodies.length := by
  obtain ⟨hi, -⟩ := List.getElem?_eq_some_iff.mp q
  refine ⟨fun k a b' h1' h2' => ?_, (List.length_append ..).trans (min_next hl hi)⟩
  rcases Nat.lt_or_ge k hs.length with hk | hk
  · rw [List.getElem?_append_left hk] at h1'
    exact H k a b' h1' h2'
  · have hk2 : k = hs.length := by
      have := (List.getElem?_eq_some_iff.mp h1').1
      simp at this; omega
    subst hk2
    rw [List.getElem?_append_right (Nat.le_refl _), Nat.sub_self] at h1'
    cases h1'
    rw [min_at hl hi, q] at h2'
    cases h2'
    exact ⟨h1, hn⟩
theorem ones_next {α : Type} {l : List α} {p : α → Bool} {k : Nat} {b : α} (q : l[k]? = some b) (hc : p b = true) : ((l.take k).filter p).map (fun _ => D.int 1) ++ [D.int 1] = ((l.take (k + 1)).filter p).map fun _ => D.int 1 := by
  rw [take_next q, List.filter_append, List.map_append]
  simp only [List.filter_cons, hc]
  rfl
theorem ones_skip {α : Type} {l : List α} {p : α → Bool} {k : Nat} {b : α} (q : l[k]? = some b) (hc : ¬ p b = true) : ((l.take k).filter p).map (fun _ => D.int 1) = ((l.take (k + 1)).filter p).map fun _ => D.int 1 := by
  rw [take_next q, List.filter_append, List.map_append]
  simp only [List.filter_cons, hc]
  simp
theorem ones_le {α : Type} {l : List α} {p : α → Bool} {k : Nat} : (((l.take k).filter p).map fun _ => D.int 1).length ≤ k := by
  rw [List.length_map]
  exact Nat.le_trans (List.length_filter_le _ _) (by rw [List.length_take]; exact Nat.min_le_left _ _)
theorem rng_next {p : Nat → Bool} {i : Nat} (hc : p i = true) : ((List.range i).filter p).map natD ++ [natD i] = ((List.range (i + 1)).filter p).map natD := by
  rw [List.range_succ, List.filter_append, List.map_append]
  simp only [List.filter_cons, hc]
  rfl
theorem rng_skip {p : Nat → Bool} {i : Nat} (hc : ¬ p i = true) : ((List.range i).filter p).map natD = ((List.range (i + 1)).filter p).map natD := by
  rw [List.range_succ, List.filter_append, List.map_append]
  simp only [List.filter_cons, hc]
  simp
theorem ones_ok (bodies : List (List UInt8)) (i : Nat) : ((bodies.filter fun b => (hind b).any (· == i)).map fun _ => D.int 1).isEmpty = okN bodies i := by
  have := ones_any bodies fun b => (hind b).any (· == i)
  unfold okN
  rw [← this, Bool.not_not]
set_option maxHeartbeats 4000000 in
theorem law_ws {W : GW} {n : Nat} {e : Env} {aLs aBl aBf aJb aBw aPs aTp aDr aLb aHd aJr aRr l : Addr} (x : LibLaw W aLs aBl aBf aJb aBw aPs aTp aDr aLb aHd aJr aRr) (he : e.scope = scopeAt 22) {xs : List Int} (hs : ∀ g, W.Glb g → ∃ vs, g.IsList l vs ∧ Reps g vs.toList (xs.map D.int)) (hx : xs.length ≤ 1000) {μ : Led} :
    Ws ⟨W, n + 3, e, lawNs, [], lawGs aBl aBf aTp aDr aLb aJr aRr⟩ (bodyAt 22) [some (.ref l), none, none, none, none, none, none, none, none, none, none, none] μ fun f _ _ => f = .ret (.bool true) := by
  have hk : e.scope.kind = .function := by rw [he]; rfl
  have hord := x.lb.ord
  refine Ws.cons ?_
  repeat walk_at "my"
  refine call_fn x.tp.f.callee ?_
  repeat walk_at "my"
  refine tp_wc x.tp hs hx fun t c μ1 hext1 T1 => ?_
  clear hext1
  repeat walk_at "my"
  refine call_fn x.lb.f.callee ?_
  repeat walk_at "my"
  refine lb_wc x.lb T1 fun ab bodies μ2 _ hbt hbc hb2 hbl hB T2 C2 => ?_
  clear T1 C2
  repeat walk_at "my"
  refine We.assign_sc (fun env h => (swaps_scope (h.trans he)).trans (by kernel_rfl)) (fun h => nomatch h) ?_
  refine Wp.comp ["body"] [] [("_law_hindered", .ref aHd)] [none]
    (okCp_of (gl := ["_law_hindered"]) (fr := []) (by decide +kernel) rfl (.cons x.hdd .nil) no_free) (Cap.none Cap.nil) (fun _ _ => rfl) (Wit.list ?_)
  repeat walk_at "my"
  refine ⟨_, .led hb2, lwC0 t c ab bodies, ⟨T2, hb2, [], rfl, (Nat.zero_min _).symm, fun i a b h => nomatch h⟩, ?_, ?_, ?_, ?_, ?_⟩
  · rintro i μ' ys ⟨-, h, -⟩; exact .led h
  · rintro i μ' ys ⟨-, -, hs, rfl, h, -⟩; rw [List.length_map, h]; exact Nat.min_le_left _ _
  · rw [List.length_map]; exact few_sz hbl rfl
  · rintro e' he' i d μ' ys hx ⟨T3, hb3, hs, rfl, hl, hH⟩
    refine map_get hx fun b q => ?_
    clear hx
    have hbm := hB b (List.mem_of_getElem? q)
    repeat walk_at "my"
    refine call_fn x.hd.f.callee ?_
    repeat walk_at "my"
    refine hd_wc x.hd (le_sz hbm.1 rfl) fun ah μ4 hext4 hah hl4 => ?_
    have hsn := (hH.ext hext4).snoc hl q hl4 (T3.ne hah)
    exact ⟨T3.ext hext4, hext4 _ _ hb3, hs ++ [ah], by simp, hsn.2, hsn.1⟩
  rintro μ3 ys ⟨T3, hb3, hs, rfl, hsl, hH3⟩ ah hah
  have hhne := T3.ne hah
  have T4 := T3.ext (Ext.upd (xs := hs.map D.ref) hah)
  have hb4 := upd_some (ds := hs.map D.ref) hb3 hah
  have hH4 := hH3.ext (Ext.upd (xs := hs.map D.ref) hah)
  have ha4 := upd_same μ3 ah (hs.map D.ref)
  have hsl : hs.length = bodies.length := by rw [hsl, List.length_map, Nat.min_self]
  generalize upd μ3 ah (hs.map D.ref) = μ4 at T4 hb4 hH4 ha4 ⊢
  clear T3 hb3 hH3 hb2 T2
  repeat walk_at "my"
  refine Wp.comp ["number", "hindered"] ["hindered"] [] [none, some (.ref ah)]
    (okCp_of (gl := []) (fr := ["hindered"]) (cgs := []) (by decide +kernel) rfl .nil (fr_of lawNs he (by decide +kernel))) (Cap.none (Cap.some rfl (by repeat (first | exact Has.head | apply Has.tail)) Cap.nil)) (fun _ _ => rfl) (Wit.range (fun _ => rfl) (fun _ => rfl) ?_)
  repeat walk_at "my"
  refine ⟨rfl, ?_⟩
  repeat walk_at "my"
  refine ⟨0, 20, .inr ⟨rfl, rfl⟩, ⟨by decide, by decide, by decide, by decide⟩, lwC1 μ4 bodies, ⟨Ext.refl _, rfl⟩, fun _ _ _ _ => trivial, ?_, ?_, ?_, ?_⟩
  · rintro i μ' ys ⟨-, rfl⟩
    rw [List.length_map]
    exact Nat.le_trans (List.length_filter_le _ _) (by simp)
  · rw [intsD_length]; exact few (by decide)
  · rintro e' he' i d μ5 ys hx ⟨hext5, rfl⟩
    obtain ⟨hi, rfl⟩ := intsD_get _ _ hx
    rw [zadd i]
    repeat walk_at "my"
    refine Wp.comp ["number", "some"] ["number"] [] [some (.int i), none]
      (okCp_of (gl := []) (fr := ["number"]) (cgs := []) (by decide +kernel) rfl .nil (fun x hx' => ?_)) (Cap.some rfl .head (Cap.none Cap.nil)) (fun _ _ => rfl) (Wit.list ?_)
    · rw [List.mem_singleton.mp hx']
      exact ⟨.head _, kind_relabel he' hk _ (by decide +kernel)⟩
    repeat walk_at "my"
    refine ⟨_, .led (hext5 _ _ ha4), lwC2 μ4 bodies i, ⟨hext5, rfl⟩, ?_, ?_, ?_, ?_, ?_⟩
    · rintro k μ' ys ⟨h, -⟩; exact .led (h _ _ ha4)
    · rintro k μ' ys ⟨-, rfl⟩
      exact ones_le
    · rw [List.length_map, hsl]; exact few_sz hbl rfl
    · rintro e2 he2 k d μ6 ys hx2 ⟨hext6, rfl⟩
      refine map_get hx2 fun a2 q => ?_
      clear hx2
      have hk2 : k < bodies.length := hsl ▸ (List.getElem?_eq_some_iff.mp q).1
      have q2 : bodies[k]? = some bodies[k] := List.getElem?_eq_getElem hk2
      generalize bodies[k] = b at q2
      have hla := (hH4 k a2 b q q2).1
      rw [natD_int] at hla
      repeat walk_at "my"
      refine W2.in_ints (.led (hext6 _ _ hla)) ?_
      rw [any_cast]
      refine kB.go (ite_of (fun hc => ?_) fun hc => ?_)
      · repeat walk_at "my"
        exact ⟨hext6, ones_next (p := fun b => (hind b).any (· == i)) q2 hc⟩
      · exact ⟨hext6, ones_skip (p := fun b => (hind b).any (· == i)) q2 hc⟩
    · rintro μ6 ys ⟨hext6, rfl⟩ a3 ha3
      rw [List.length_map, hsl, List.take_of_length_le (Nat.le_refl _)]
      refine Wp.list (Wl.nil ⟨few (Nat.le_of_ble_eq_true rfl), fun a5 ha5 => ?_⟩)
      refine W2.eq_nil (.led (upd_some (upd_same _ _ _) ha5)) (.led (upd_same _ _ _)) ?_
      have hext7 := hext6.trans ((Ext.upd (xs := (bodies.filter fun b => (hind b).any (· == i)).map fun _ => D.int 1) ha3).trans (Ext.upd (xs := []) ha5))
      rw [ones_ok]
      refine kB.go (ite_of (fun hc => ?_) fun hc => ?_)
      · repeat walk_at "my"
        exact ⟨hext7, rng_next hc⟩
      · exact ⟨hext7, rng_skip hc⟩
  rintro μ5 ys ⟨hext5, rfl⟩ al hal
  have hext6 := hext5.trans (Ext.upd (xs := ((List.range 20).filter (okN bodies)).map natD) hal)
  obtain ⟨f, hf0, hf20, hfno, hflt⟩ := frees_head fun b hb => (hB b hb).2
  have e20 : (intsD 0 20).length = 20 := rfl
  rw [e20]
  repeat walk_at "my"
  have e5 : (((List.range 20).filter (okN bodies)).map natD)[0]? = some (natD f) := by
    rw [List.getElem?_map]
    unfold frees at hf0
    rw [hf0]; rfl
  refine sub_led (upd_same _ _ _) (by decide) (by decide) e5 ?_
  have T6 := T4.ext hext6
  have hb6 := hext6 _ _ hb4
  have ha6 := hext6 _ _ ha4
  have hH6 := hH4.ext hext6
  clear hext6 hext5 T4 hb4 ha4 hH4 e5
  generalize upd μ5 al (((List.range 20).filter (okN bodies)).map natD) = μ6 at T6 hb6 ha6 hH6 ⊢
  repeat walk_at "my"
  refine call_fn x.bf.f.callee ?_
  repeat walk_at "my"
  refine bf_wc x.bf (fun b hb => le_sz (hB b hb).1 rfl) (le_sz hbl rfl) hb6 hf20 hfno hflt fun μ7 hext7 => ?_
  have T7 := T6.ext hext7
  have hb7 := hext7 _ _ hb6
  have ha7 := hext7 _ _ ha6
  have hH7 := hH6.ext hext7
  clear hext7 T6 hb6 ha6 hH6
  repeat walk_at "my"
  refine Wc.num hf20 ?_
  repeat walk_at "my"
  refine W2.lead hf20 ?_
  repeat walk_at "my"
  rw [bne_self_eq_false]
  repeat walk_at "my"
  refine call_fn x.lb.dr.callee ?_
  repeat walk_at "my"
  refine draw_wc x.lb.dr x.lb.len (by decide) (by decide) T7 fun ot μ8 o0 o1 T8 C8 => ?_
  obtain ⟨ot, rfl⟩ := Int.eq_ofNat_of_zero_le o0
  have hb8 := C8 _ _ hbt hbc hb7
  have ha8 := C8 _ _ hhne.1 hhne.2 ha7
  have hH8 := hH7.chg C8
  clear C8 T7 hb7 ha7 hH7
  repeat walk_at "my"
  refine We.for_ (fun _ _ => rfl) (Wit.zip (fun _ => rfl) (fun _ => rfl) ?_)
  repeat walk_at "my"
  refine ⟨rfl, ?_⟩
  repeat walk_at "my"
  refine ⟨_, _, _, _, rfl, .led hb8, .led ha8, fun u v i h1 h2 => ?_, lwJ l t c ab ah bodies hs f ot, ⟨none, none, none, ⟨T8, hb8, ha8, hH8⟩, rfl⟩, ?_, ?_, ?_⟩
  · rw [List.getElem?_map] at h2
    cases q : hs[i]? with
    | none => rw [q] at h2; cases h2
    | some z => rw [q] at h2; cases h2; exact Bool.or_true _
  · rintro i ds μ' ⟨q1, q2, q3, ⟨-, h1, h2, -⟩, -⟩
    exact ⟨.led h1, .led h2⟩
  · intro i d ds1 μ9 hx hJ
    refine lwJ.elim hJ fun q1 q2 q3 T9 hb9 ha9 hH9 => ?_
    clear hJ
    obtain ⟨u, v, h1, h2, rfl⟩ := pairs_get hx
    clear hx
    refine map_get h1 fun b p1 => ?_
    clear h1
    refine map_get h2 fun a2 p2 => ?_
    · clear h2
      · clear hH8 hb8 ha8 T8
        have hbm := (hB b (List.mem_of_getElem? p1)).1
        repeat walk_at "my"
        refine We.for_ (fun _ _ => rfl) (Wit.tuple ?_)
        repeat walk_at "my"
        refine ⟨few (Nat.le_of_ble_eq_true rfl), fun d hd ys hq => ?_, lwJ2 l t c ab ah a2 b bodies hs f ot, ⟨q2, ⟨T9, hb9, ha9, hH9⟩, rfl⟩, fun _ _ _ _ => trivial, ?_, ?_⟩
        · subst hq
          simp at hd
        · intro k d ds2 μ10 hx2 hJ
          refine lwJ2.elim hJ fun q2' T10 hb10 ha10 hH10 => ?_
          clear hJ
          obtain ⟨j, rfl, hj⟩ : ∃ j : Nat, d = natD j ∧ j < 20 := by
            rcases two_nat hx2 with h | h
            · exact ⟨f, h, hf20⟩
            · exact ⟨ot, h, Nat.lt_trans (Int.ofNat_lt.mp o1) (by decide)⟩
          clear hx2
          have nk := num_20 hj
          have hla := (hH10 i a2 b p2 p1).1
          rw [natD_int] at hla
          repeat walk_at "my"
          refine call_fn x.bf.bl.f.callee ?_
          repeat walk_at "my"
          refine Wc.num hj ?_
          repeat walk_at "my"
          refine ⟨nk.1, Nat.le_trans nk.2.1 (by decide), fun μ11 hext11 => ?_⟩
          have ho2 : (octs (numS j)).length ≤ 2 := by unfold octs; simpa using nk.2.1
          refine W2.add_sz (Nat.le_refl 8) ho2 rfl fun hml => ?_
          have hmk : [45, 45, 61, 95, 112, 97, 114, 116] ++ octs (numS j) = markB j := nk.2.2
          rw [hmk] at hml ⊢
          repeat walk_at "my"
          refine bl_wc x.bf.bl (le_sz hbm rfl) (le_sz hml rfl) fun μ12 hext12 => ?_
          have hext12 := hext11.trans hext12
          repeat walk_at "my"
          refine W2.in_ints (.led (hext12 _ _ hla)) ?_
          rw [any_cast, begins_hind hj]
          refine W2.ne_bool ?_
          rw [bne_self_eq_false]
          repeat walk_at "my"
          exact ⟨_, ⟨T10.ext hext12, hext12 _ _ hb10, hext12 _ _ ha10, hH10.ext hext12⟩, rfl⟩
        · intro ds2 μ10 hJ
          refine lwJ2.elim hJ fun q2' T10 hb10 ha10 hH10 => ?_
          repeat walk_at "my"
          exact ⟨_, _, _, ⟨T10, hb10, ha10, hH10⟩, rfl⟩
  intro ds1 μ9 hJ
  refine lwJ.elim hJ fun q1 q2 q3 T9 hb9 ha9 hH9 => ?_
  clear hJ
  clear hH8 hb8 ha8 T8
  repeat walk_at "my"
  refine call_fn x.lb.dr.callee ?_
  repeat walk_at "my"
  refine draw_wc x.lb.dr x.lb.len (by decide) (by decide) T9 fun go μ10 g0 g1 T10 C10 => ?_
  obtain ⟨go, rfl⟩ := Int.eq_ofNat_of_zero_le g0
  have hb10 := C10 _ _ hbt hbc hb9
  clear C10 T9 hb9 ha9 hH9
  repeat walk_at "my"
  refine We.for_ (fun _ _ => rfl) (Wit.tuple ?_)
  refine Wl.cons (fun _ => rfl) (Wp.name (by repeat (first | exact Has.head | apply Has.tail)) (Wl.cons (fun _ => rfl) (Wp.binop (Wp.slice_list ?_))))
  repeat walk_at "my"
  have hbl1 : (bodies.map D.bytes).length ≤ sizeLine := by rw [List.length_map]; exact few_sz hbl rfl
  refine ⟨_, .led hb10, hbl1, fun a1 ha1 => Wp.slice_list ?_⟩
  have hb11 := upd_some (ds := cut (bodies.map D.bytes) none (some (go : Int))) hb10 ha1
  repeat walk_at "my"
  refine ⟨_, .led hb11, hbl1, fun a2 ha2 => ?_⟩
  have hb12 := upd_some (ds := cut (bodies.map D.bytes) (some ((go : Int) + 1)) none) hb11 ha2
  have T12 := (T10.ext (Ext.upd (xs := cut (bodies.map D.bytes) none (some (go : Int))) ha1)).ext (Ext.upd (xs := cut (bodies.map D.bytes) (some ((go : Int) + 1)) none) ha2)
  have e1 : cut (bodies.map D.bytes) none (some (go : Int)) = (bodies.take go).map D.bytes := by rw [cut_to, List.map_take]
  have e2 : cut (bodies.map D.bytes) (some ((go : Int) + 1)) none = (bodies.drop (go + 1)).map D.bytes := by
    rw [show ((go : Int) + 1) = ((go + 1 : Nat) : Int) from rfl, cut_from, List.map_drop]
  have l1 := upd_some (ds := cut (bodies.map D.bytes) (some ((go : Int) + 1)) none) (upd_same μ10 a1 (cut (bodies.map D.bytes) none (some (go : Int)))) ha2
  have l2 := upd_same (upd μ10 a1 (cut (bodies.map D.bytes) none (some (go : Int)))) a2 (cut (bodies.map D.bytes) (some ((go : Int) + 1)) none)
  generalize upd (upd μ10 a1 (cut (bodies.map D.bytes) none (some (go : Int)))) a2 (cut (bodies.map D.bytes) (some ((go : Int) + 1)) none) = μ12 at hb12 T12 l1 l2 ⊢
  rw [e1] at l1
  rw [e2] at l2
  clear T10 hb11 hb10 e1 e2
  refine W2.add_list (.led l1) (.led l2) (by rw [List.length_map, List.length_map, List.length_take, List.length_drop, sizeLine_eq]; exact Nat.le_trans row_few (Nat.le_trans hbl (by decide))) fun a3 ha3 => ?_
  have T13 := T12.ext (Ext.upd (xs := (bodies.take go).map D.bytes ++ (bodies.drop (go + 1)).map D.bytes) ha3)
  have hb13 := upd_some (ds := (bodies.take go).map D.bytes ++ (bodies.drop (go + 1)).map D.bytes) hb12 ha3
  have l3 := upd_same μ12 a3 ((bodies.take go).map D.bytes ++ (bodies.drop (go + 1)).map D.bytes)
  generalize upd μ12 a3 ((bodies.take go).map D.bytes ++ (bodies.drop (go + 1)).map D.bytes) = μ13 at T13 hb13 l3 ⊢
  rw [← List.map_append] at l3
  clear T12 hb12 l1 l2
  refine Wl.cons (fun _ => rfl) (Wp.list (Wl.nil ⟨few (Nat.le_of_ble_eq_true rfl), fun a4 ha4 => Wl.nil ?_⟩))
  have T14 := T13.ext (Ext.upd (xs := []) ha4)
  have hb14 := upd_some (ds := []) hb13 ha4
  have l14 := upd_some (ds := []) l3 ha4
  have l4 := upd_same μ13 a4 []
  generalize upd μ13 a4 [] = μ14 at T14 hb14 l14 l4 ⊢
  clear T13 hb13 l3
  have hno : ∀ b ∈ bodies, ∀ q ∈ splitB 10 b, ¬ markB f <+: q := fun b hb => no_prefix hf20 (hfno b hb)
  refine ⟨few (Nat.le_of_ble_eq_true rfl), fun d hd ys hq => ?_, lwJ3 μ14 l t ab ah q1 q2 q3 f ot go, ⟨none, Ext.refl _, rfl⟩, fun _ _ _ _ => trivial, ?_, ?_⟩
  · subst hq
    simp at hd
  · intro k d ds1 μ15 hx2 hJ
    refine lwJ3.elim hJ fun q4 hext => ?_
    clear hJ
    obtain ⟨a5, rows, rfl, hr, hsub, hrl⟩ := rows_of hx2 hb14 l14 l4 hbl
    clear hx2
    repeat walk_at "my"
    refine call_fn x.jr.f.callee ?_
    repeat walk_at "my"
    refine jr_wc x.jr hf20 hrl (fun b hb => (hB b (hsub b hb)).1) (fun μ' h' => .led (h' _ _ (hext _ _ hr))) (fun b hb => hno b (hsub b hb)) fun μ16 hext16 => ?_
    repeat walk_at "my"
    refine ite_of (fun hc => absurd hc (by decide)) fun _ => ?_
    repeat walk_at "my"
    exact ⟨_, hext.trans hext16, rfl⟩
  · intro ds1 μ15 hJ
    refine lwJ3.elim hJ fun q4 hext => ?_
    clear hJ
    repeat walk_at "my"
    refine call_fn x.rr.f.callee ?_
    repeat walk_at "my"
    refine rr_wc x.rr hf20 hbl (fun b hb => (hB b hb).1) (T14.ext hext) (hext _ _ hb14) hbt hbc hno fun _ => ?_
    rfl
section
open PySem PySem.Calls PySem.W
/-! ## The top has laid the text's own objects -/
structure Laid (W : GW) (K : Frag) : Prop where
  inn : ∀ h, W.Glb h → K.In h
  mg : ∀ x v, nsIn K mainGlobals x = some (some v) → W.mg x = some v
  mn : ∀ x, nsIn K mainGlobals x = some none → W.mg x = none
  mb : ∀ x : Str, x ≠ "__name__" → W.mb x = bootBuiltins x
noncomputable def fdL (K : Frag) (a : Addr) : FuncData := match (K.lookup a).map (fun o : Obj => o.data) with
  | some (Data.func fd) => fd
  | _ => default
noncomputable def refOf : Value → Option Addr
  | .ref a => some a
  | _ => none
noncomputable def strOf : Value → Option Str
  | .str x _ => some x
  | _ => none
noncomputable def typeOf_ : Value → Option String
  | .type n => some n
  | _ => none
noncomputable def bytesV : Value → Option (List UInt8)
  | .bytes b _ => some b.toList
  | _ => none
noncomputable def fieldsOf : Data → Option (Array Value)
  | .fields vs => some vs
  | _ => none
noncomputable def seqOf : Data → Option (List Value)
  | .seq vs _ => some vs.toList
  | _ => none
theorem refOf_inv {v : Value} {a : Addr} (h : refOf v = some a) : v = .ref a := by cases v <;> first | (cases h; done) | (cases h; rfl)
theorem strOf_inv {v : Value} {a : Str} (h : strOf v = some a) : ∃ t, v = .str a t := by cases v <;> first | (cases h; done) | (cases h; exact ⟨_, rfl⟩)
theorem typeOf_inv {v : Value} {a : String} (h : typeOf_ v = some a) : v = .type a := by cases v <;> first | (cases h; done) | (cases h; rfl)
theorem bytesV_inv {v : Value} {a : List UInt8} (h : bytesV v = some a) : ∃ t, v = .bytes a.toArray t := by cases v <;> first | (cases h; done) | (cases h; exact ⟨_, rfl⟩)
theorem fieldsOf_inv {v : Data} {a : Array Value} (h : fieldsOf v = some a) : v = .fields a := by cases v <;> first | (cases h; done) | (cases h; rfl)
theorem seqOf_inv {v : Data} {a : List Value} (h : seqOf v = some a) : ∃ vs n, v = .seq vs n ∧ vs.toList = a := by cases v <;> first | (cases h; done) | (cases h; exact ⟨_, _, rfl, rfl⟩)
noncomputable def codeL (K : Frag) (fd : FuncData) : Option Str := (refOf fd.code).bind fun c => (K.lookup c).bind fun o => (fieldsOf o.data).bind fun vs => (vs[1]? : Option Value).bind strOf
noncomputable def Pk (K : Frag) (a : Addr) (vs : List Value) (bs : List (Str × Value)) : Prop := ∀ S, peek K S (bindArgs (fdL K a) ⟨vs, []⟩) = some bs
structure Chk (K : Frag) (a : Addr) (i : Nat) : Prop where
  data : (K.lookup a).map (fun o : Obj => o.data) = some (Data.func (fdL K a))
  body : (fdL K a).body = .stmts (bodyAt i)
  clo : (fdL K a).closure = []
  glob : (fdL K a).globals = mainGlobals
  bui : (fdL K a).builtins = builtinsNs
  scope : (fdL K a).scope = scopeAt i
  code : codeL K (fdL K a) = some (fdL K a).qualname
theorem Chk.fn {W : GW} {K : Frag} {a : Addr} {i : Nat} (c : Chk K a i) (L : Laid W K) : FnIn W a (fdL K a) (bodyAt i) where
  obj := fun h g => by
    have e := c.data
    cases q : K.lookup a with
    | none => rw [q] at e; cases e
    | some o =>
      rw [q] at e
      exact ⟨o, L.inn h g a o q, Option.some.inj e⟩
  code := fun h g => by
    obtain ⟨cc, h1, e⟩ := Option.bind_eq_some_iff.mp c.code
    obtain ⟨o, h2, e⟩ := Option.bind_eq_some_iff.mp e
    obtain ⟨vs, h3, e⟩ := Option.bind_eq_some_iff.mp e
    obtain ⟨v, h4, e⟩ := Option.bind_eq_some_iff.mp e
    obtain ⟨t, rfl⟩ := strOf_inv e
    exact ⟨cc, o, vs, t, refOf_inv h1, L.inn h g _ _ h2, fieldsOf_inv h3, h4⟩
  body := c.body
  clo := c.clo
  glob := c.glob
  bui := c.bui
theorem binds_of {K : Frag} {s : Shared} {fd : FuncData} {args : Args} {binds : List (Str × Value)} (X : K.In s.heap) (e : ∀ S, peek K S (bindArgs fd args) = some binds) : BindsTo s fd args binds :=
  fun M _ _ _ hq _ _ _ => wp_of_peek X hq _ (e ⟨M.prog, M.w.params⟩)
theorem FnAt.of {W : GW} {K : Frag} {a : Addr} {i : Nat} {ps : List Str} (L : Laid W K) (c : Chk K a i) (hb : ∀ vs, vs.length = ps.length → Pk K a vs (ps.zip vs)) : FnAt W a i ps :=
  ⟨⟨_, c.fn L, c.scope, fun s vs g h => binds_of (L.inn _ g) (hb vs h)⟩⟩
theorem len_cons {α : Type} {vs : List α} {n : Nat} (h : vs.length = n + 1) : ∃ v ws, vs = v :: ws ∧ ws.length = n := by
  cases vs with
  | nil => cases h
  | cons v ws => exact ⟨v, ws, rfl, Nat.succ.inj h⟩
theorem FnAt.of1 {W : GW} {K : Frag} {a : Addr} {i : Nat} {p : Str} (L : Laid W K) (c : Chk K a i) (hb : ∀ v, Pk K a [v] [(p, v)]) : FnAt W a i [p] :=
  .of L c fun vs h S => by
    obtain ⟨v, vs1, rfl, h1⟩ := len_cons h
    cases List.eq_nil_of_length_eq_zero h1; exact hb v S
theorem FnAt.of2 {W : GW} {K : Frag} {a : Addr} {i : Nat} {p q : Str} (L : Laid W K) (c : Chk K a i) (hb : ∀ v w, Pk K a [v, w] [(p, v), (q, w)]) : FnAt W a i [p, q] :=
  .of L c fun vs h S => by
    obtain ⟨v, vs1, rfl, h1⟩ := len_cons h
    obtain ⟨w, vs2, rfl, h2⟩ := len_cons h1
    cases List.eq_nil_of_length_eq_zero h2; exact hb v w S
theorem FnAt.of3 {W : GW} {K : Frag} {a : Addr} {i : Nat} {p q r : Str} (L : Laid W K) (c : Chk K a i) (hb : ∀ v w u, Pk K a [v, w, u] [(p, v), (q, w), (r, u)]) : FnAt W a i [p, q, r] :=
  .of L c fun vs h S => by
    obtain ⟨v, vs1, rfl, h1⟩ := len_cons h
    obtain ⟨w, vs2, rfl, h2⟩ := len_cons h1
    obtain ⟨u, vs3, rfl, h3⟩ := len_cons h2
    cases List.eq_nil_of_length_eq_zero h3; exact hb v w u S
theorem FnAt.of4 {W : GW} {K : Frag} {a : Addr} {i : Nat} {p q r t : Str} (L : Laid W K) (c : Chk K a i) (hb : ∀ v w u x, Pk K a [v, w, u, x] [(p, v), (q, w), (r, u), (t, x)]) : FnAt W a i [p, q, r, t] :=
  .of L c fun vs h S => by
    obtain ⟨v, vs1, rfl, h1⟩ := len_cons h
    obtain ⟨w, vs2, rfl, h2⟩ := len_cons h1
    obtain ⟨u, vs3, rfl, h3⟩ := len_cons h2
    obtain ⟨x, vs4, rfl, h4⟩ := len_cons h3
    cases List.eq_nil_of_length_eq_zero h4; exact hb v w u x S
theorem GD.fn {W : GW} {K : Frag} {x : Str} {a : Addr} (L : Laid W K) (e : nsIn K mainGlobals x = some (some (.ref a))) : GD W x (.ref a) := ⟨.ref a, .inl (L.mg _ _ e), fun _ _ => .val _⟩
theorem GD.bi {W : GW} {K : Frag} {x : Str} {v : Value} (L : Laid W K) (e : nsIn K mainGlobals x = some none) (hx : (x == "__name__") = false) (hb : bootBuiltins x = some v) : GD W x (.val v) :=
  ⟨v, .inr ⟨L.mn _ e, (L.mb x (fun z => by rw [z] at hx; simp at hx)).trans hb⟩, fun _ _ => .val _⟩
theorem GD.int {W : GW} {K : Frag} {x : Str} {i : Int} {t : Tok} (L : Laid W K) (e : nsIn K mainGlobals x = some (some (.int i t))) : GD W x (.int i) := ⟨_, .inl (L.mg _ _ e), fun _ _ => .int _ _⟩
theorem GD.str {W : GW} {K : Frag} {x y : Str} {t : Tok} (L : Laid W K) (e : nsIn K mainGlobals x = some (some (.str y t))) : GD W x (.str y) := ⟨_, .inl (L.mg _ _ e), fun _ _ => .str _ _⟩
theorem GD.bytes {W : GW} {K : Frag} {x : Str} {b : List UInt8} {t : Tok} (L : Laid W K) (e : nsIn K mainGlobals x = some (some (.bytes b.toArray t))) : GD W x (.bytes b) := ⟨_, .inl (L.mg _ _ e), fun _ _ => .bytes _ _⟩
theorem bytesV_rep {h : Heap} (vs : List Value) : ∀ {L : List (List UInt8)}, vs.map bytesV = L.map some → vs.all flatV = true ∧ Reps h vs (L.map D.bytes) := by
  induction vs with
  | nil =>
    intro L e
    cases L with
    | nil => exact ⟨rfl, .nil⟩
    | cons => cases e
  | cons v vs ih =>
    intro L e
    cases L with
    | nil => cases e
    | cons b L =>
      obtain ⟨e1, e2⟩ := List.cons.inj e
      obtain ⟨h1, h2⟩ := ih e2
      obtain ⟨t, rfl⟩ := bytesV_inv e1
      exact ⟨by rw [List.all_cons, h1]; rfl, .cons (.bytes b t) h2⟩
noncomputable def tupV (x : Option Obj) : Option (Option String × Option (List (Option (List UInt8)))) := x.map fun o => (typeOf_ o.cls, (seqOf o.data).map fun vs => vs.map bytesV)
theorem GD.tupB {W : GW} {K : Frag} {x : Str} {a : Addr} {L : List (List UInt8)} (La : Laid W K) (e : nsIn K mainGlobals x = some (some (.ref a))) (h : tupV (K.lookup a) = some (some "tuple", some (L.map some))) : GD W x (.tup (L.map D.bytes)) :=
  ⟨.ref a, .inl (La.mg _ _ e), fun hp g => by
    obtain ⟨o, q, e1⟩ := Option.map_eq_some_iff.mp h
    have e2 := (Prod.mk.inj e1).1
    obtain ⟨l, e3, e4⟩ := Option.map_eq_some_iff.mp (Prod.mk.inj e1).2
    obtain ⟨vs, n, e5, rfl⟩ := seqOf_inv e3
    obtain ⟨h1, h2⟩ := bytesV_rep (h := hp) _ e4
    exact .tup (La.inn hp g a _ q) (typeOf_inv e2) e5 h1 h2⟩
/-- line_spans, asked with one value -/
theorem FnD.ls {W : GW} {K : Frag} {a : Addr} {t u : Tok} (L : Laid W K) (c : Chk K a 3) (hb : ∀ v, Pk K a [v] [("data", v), ("at", .int 0 t), ("end", .int (-1) u)]) : FnD W a 3 lsPs 1 [.int 0, .int (-1)] :=
  ⟨⟨_, c.fn L, c.scope, fun s vs g h => ⟨[.int 0 t, .int (-1) u], by
    obtain ⟨v, vs1, rfl, h1⟩ := len_cons h
    cases List.eq_nil_of_length_eq_zero h1
    exact binds_of (L.inn _ g) (hb v), .cons (.int _ _) (.cons (.int _ _) .nil)⟩⟩⟩
noncomputable def Fa (K : Frag) (x : Str) (a : Addr) : Prop := nsIn K mainGlobals x = some (some (.ref a))
noncomputable def Fb (K : Frag) (x : Str) : Prop := nsIn K mainGlobals x = some none
structure AllChk (K : Frag) : Prop where
  f3 : Chk K 22 3
  f6 : Chk K 27 6
  f7 : Chk K 32 7
  f8 : Chk K 37 8
  f11 : Chk K 44 11
  f12 : Chk K 51 12
  f16 : Chk K 58 16
  f17 : Chk K 65 17
  f18 : Chk K 70 18
  f19 : Chk K 77 19
  f20 : Chk K 82 20
  f21 : Chk K 87 21
  f22 : Chk K 92 22
  b3 : ∀ v, Pk K 22 [v] [("data", v), ("at", .int 0 193), ("end", .int (-1) 195)]
  c3 : ∀ v w u, Pk K 22 [v, w, u] [("data", v), ("at", w), ("end", u)]
  b6 : ∀ v w, Pk K 27 [v, w] [("octets", v), ("mark", w)]
  b7 : ∀ v, Pk K 32 [v] [("bodies", v)]
  b8 : ∀ v w, Pk K 37 [v, w] [("bodies", v), ("boundary", w)]
  b11 : ∀ v w, Pk K 44 [v, w] [("line", v), ("boundary", w)]
  b12 : ∀ v w u x, Pk K 51 [v, w, u, x] [("data", v), ("at", w), ("end", u), ("boundary", x)]
  b16 : ∀ v, Pk K 58 [v] [("script", v)]
  b17 : ∀ v w, Pk K 65 [v, w] [("tape", v), ("many", w)]
  b18 : ∀ v, Pk K 70 [v] [("tape", v)]
  b19 : ∀ v, Pk K 77 [v] [("body", v)]
  b20 : ∀ v w, Pk K 82 [v, w] [("bodies", v), ("boundary", w)]
  b21 : ∀ v w u, Pk K 87 [v, w, u] [("tape", v), ("bodies", w), ("boundary", u)]
  b22 : ∀ v, Pk K 92 [v] [("script", v)]
  fns : Fa K "line_spans" 22 ∧ Fa K "begins_line" 27 ∧ Fa K "boundary_for" 32 ∧ Fa K "joined_bodies" 37 ∧ Fa K "boundary_way" 44 ∧ Fa K "part_spans" 51 ∧ Fa K "_law_tape" 58 ∧ Fa K "_law_draw" 65 ∧ Fa K "_law_bodies" 70 ∧ Fa K "_law_hindered" 77 ∧ Fa K "_law_joined_right" 82 ∧ Fa K "_law_rough_right" 87 ∧ Fa K "law" 92 ∧ Fa K "_law_behind" 52 ∧ Fa K "_law_nearly" 53
  bis : Fb K "len" ∧ Fb K "min" ∧ Fb K "max" ∧ Fb K "str" ∧ Fb K "bytes" ∧ Fb K "ord" ∧ Fb K "abs" ∧ Fb K "int" ∧ Fb K "range" ∧ Fb K "zip"
  crlf : nsIn K mainGlobals "CRLF" = some (some (.bytes #[13, 10] 189))
  ret : nsIn K mainGlobals "RETURN" = some (some (.int 13 191))
  lead : nsIn K mainGlobals "BOUNDARY_LEAD" = some (some (.str (Str.ofString "=_part") 212))
  blanks : nsIn K mainGlobals "BLANKS" = some (some (.bytes #[32, 9] 234))
  beh : tupV (K.lookup 52) = some (some "tuple", some (behL.map some))
  near : tupV (K.lookup 53) = some (some "tuple", some (nearL.map some))
theorem boot_len : bootBuiltins "len" = some (.builtin "len") := by kernel_rfl
theorem boot_min : bootBuiltins "min" = some (.builtin "min") := by kernel_rfl
theorem boot_max : bootBuiltins "max" = some (.builtin "max") := by kernel_rfl
theorem boot_str : bootBuiltins "str" = some (.type "str") := by kernel_rfl
theorem boot_bytes : bootBuiltins "bytes" = some (.type "bytes") := by kernel_rfl
theorem boot_ord : bootBuiltins "ord" = some (.builtin "ord") := by kernel_rfl
theorem boot_abs : bootBuiltins "abs" = some (.builtin "abs") := by kernel_rfl
theorem boot_int : bootBuiltins "int" = some (.type "int") := by kernel_rfl
theorem boot_range : bootBuiltins "range" = some (.type "range") := by kernel_rfl
theorem boot_zip : bootBuiltins "zip" = some (.type "zip") := by kernel_rfl
theorem law_wc {W : GW} {K : Frag} (L : Laid W K) (c : AllChk K) {n : Nat} {l : Addr} {xs : List Int} (hs : ∀ g, W.Glb g → ∃ vs, g.IsList l vs ∧ Reps g vs.toList (xs.map D.int)) (hx : xs.length ≤ 1000) {μ : Led} : Wc W (n + 4) (.ref 92) [.ref l] μ fun d _ => d = .bool true := by
  have g22 : nsIn K mainGlobals "line_spans" = some (some (.ref 22)) := c.fns.1
  have g27 : nsIn K mainGlobals "begins_line" = some (some (.ref 27)) := c.fns.2.1
  have g32 : nsIn K mainGlobals "boundary_for" = some (some (.ref 32)) := c.fns.2.2.1
  have g37 : nsIn K mainGlobals "joined_bodies" = some (some (.ref 37)) := c.fns.2.2.2.1
  have g44 : nsIn K mainGlobals "boundary_way" = some (some (.ref 44)) := c.fns.2.2.2.2.1
  have g51 : nsIn K mainGlobals "part_spans" = some (some (.ref 51)) := c.fns.2.2.2.2.2.1
  have g58 : nsIn K mainGlobals "_law_tape" = some (some (.ref 58)) := c.fns.2.2.2.2.2.2.1
  have g65 : nsIn K mainGlobals "_law_draw" = some (some (.ref 65)) := c.fns.2.2.2.2.2.2.2.1
  have g70 : nsIn K mainGlobals "_law_bodies" = some (some (.ref 70)) := c.fns.2.2.2.2.2.2.2.2.1
  have g77 : nsIn K mainGlobals "_law_hindered" = some (some (.ref 77)) := c.fns.2.2.2.2.2.2.2.2.2.1
  have g82 : nsIn K mainGlobals "_law_joined_right" = some (some (.ref 82)) := c.fns.2.2.2.2.2.2.2.2.2.2.1
  have g87 : nsIn K mainGlobals "_law_rough_right" = some (some (.ref 87)) := c.fns.2.2.2.2.2.2.2.2.2.2.2.1
  have g92 : nsIn K mainGlobals "law" = some (some (.ref 92)) := c.fns.2.2.2.2.2.2.2.2.2.2.2.2.1
  have g52 : nsIn K mainGlobals "_law_behind" = some (some (.ref 52)) := c.fns.2.2.2.2.2.2.2.2.2.2.2.2.2.1
  have g53 : nsIn K mainGlobals "_law_nearly" = some (some (.ref 53)) := c.fns.2.2.2.2.2.2.2.2.2.2.2.2.2.2
  have dlen := GD.bi L (c.bis.1) (by decide) boot_len
  have dmin := GD.bi L (c.bis.2.1) (by decide) boot_min
  have dmax := GD.bi L (c.bis.2.2.1) (by decide) boot_max
  have dstr := GD.bi L (c.bis.2.2.2.1) (by decide) boot_str
  have dbytes := GD.bi L (c.bis.2.2.2.2.1) (by decide) boot_bytes
  have dord := GD.bi L (c.bis.2.2.2.2.2.1) (by decide) boot_ord
  have dabs := GD.bi L (c.bis.2.2.2.2.2.2.1) (by decide) boot_abs
  have dint := GD.bi L (c.bis.2.2.2.2.2.2.2.1) (by decide) boot_int
  have drange := GD.bi L (c.bis.2.2.2.2.2.2.2.2.1) (by decide) boot_range
  have dzip := GD.bi L (c.bis.2.2.2.2.2.2.2.2.2) (by decide) boot_zip
  have ls : LibLs W 22 := ⟨.of3 L c.f3 c.c3, .ls L c.f3 c.b3, dlen, dmin, .int L c.ret⟩
  have bl : LibBl W 22 27 := ⟨ls, .of2 L c.f6 c.b6, .fn L g22⟩
  have bf : LibBf W 22 27 32 := ⟨bl, .of1 L c.f7 c.b7, .str L c.lead, dstr, dbytes, dord, .fn L g27⟩
  have jb : LibJb W 37 := ⟨.of2 L c.f8 c.b8, dbytes, dord, .bytes (b := [13, 10]) L c.crlf⟩
  have bw : LibBw W 44 := ⟨.of2 L c.f11 c.b11, dlen, .bytes (b := [32, 9]) L c.blanks⟩
  have ps : LibPs W 22 44 51 := ⟨ls, bw, .of4 L c.f12 c.b12, .fn L g22, .fn L g44, dmax⟩
  have tp : LibTp W 58 := ⟨.of1 L c.f16 c.b16, dlen, dabs, dint⟩
  have dr : FnAt W 65 17 drawPs := .of2 L c.f17 c.b17
  have lb : LibLb W 65 70 := ⟨dr, dlen, .of1 L c.f18 c.b18, .fn L g65, drange, dbytes, dstr, dord, .tupB L g52 c.beh, .tupB L g53 c.near⟩
  have hd : LibHd W 77 := ⟨.of1 L c.f19 c.b19, drange, dlen⟩
  have jr : LibJr W 37 22 44 51 82 := ⟨jb, ps, .of2 L c.f20 c.b20, .fn L g37, .fn L g51, dbytes, dord, dlen⟩
  have rr : LibRr W 65 22 44 51 87 := ⟨dr, ps, .of3 L c.f21 c.b21, .fn L g65, .fn L g51, .fn L g44, dbytes, dord, dlen, dzip⟩
  have lw : LibLaw W 22 27 32 37 44 51 58 65 70 77 82 87 := ⟨bf, tp, lb, hd, jr, rr, .fn L g58, .fn L g70, .fn L g77, .fn L g32, .fn L g82, .fn L g87⟩
  have f : FnAt W 92 22 ["script"] := .of1 L c.f22 c.b22
  refine f.wc ["tape", "bodies", "body", "hindered", "number", "some", "free", "boundary", "other", "gone", "rows"] lawNs (lawGs 27 32 58 65 70 82 87)
    [some (.ref l), none, none, none, none, none, none, none, none, none, none, none] law_scope
    (.cons (.fn L g58) (.cons (.fn L g70) (.cons drange (.cons (.fn L g32) (.cons dstr (.cons (.fn L g65) (.cons dzip (.cons (.fn L g27) (.cons dbytes (.cons (.fn L g82) (.cons (.fn L g87) .nil))))))))))) rfl fun e he => ?_
  refine (law_ws lw he hs hx).mono fun g ds μ' q => ?_
  subst q
  rfl
theorem repsOf {h : Heap} {vs : List Value} {xs : List Int} (hi : PyProof.Rows.IntsAre vs xs) : Reps h vs (xs.map D.int) := by
  induction hi with
  | nil => exact .nil
  | cons _ _ _ ih => exact .cons (.int _ _) ih
theorem law_fin {K : Frag} {prog p : Program} {w : World} {s : Shared} {loose : List Str} {mean : ExcName → Option Value} {mg mb : Str → Option Value} (X : K.In s.heap) (T : PyProof.Rows.Top p loose mean mg mb s.heap) (c : AllChk K) {fa l : Addr} {vs : List Value} {xs : List Int}
    (hmg : mg "law" = some (.ref fa)) (hl : s.heap.IsList l vs.toArray) (hi : PyProof.Rows.IntsAre vs xs) (hx : ¬ ((63 : Nat) : Int) < (xs.length : Int)) {Q : Value → Shared → Prop} {E : Value → Shared → Prop}
    (k : ∀ s' : Shared, (∀ b o, s.heap.get? b = some o → s'.heap.get? b = some o) → s'.os = s.os → s'.gens = s.gens → Q (.bool true) s') : wpAny (model prog w) callerA (call (.ref fa) [.ref l]) Q E s := by
  let W : GW := ⟨prog, w, mg, mb, fun h => Kept s.heap h, fun a b => a.trans b, fun a => T.g.keeps a, fun a => T.b.keeps a, fun a => T.nolimit.keeps a⟩
  have L : Laid W K := ⟨fun h g => X.keeps g, fun x v e => mg_of X T.g e, fun x e => mg_none_of X T.g e, T.builtins⟩
  have g92 : nsIn K mainGlobals "law" = some (some (.ref 92)) := c.fns.2.2.2.2.2.2.2.2.2.2.2.2.1
  have e := mg_of X T.g g92
  rw [hmg] at e
  cases e
  have h := law_wc (n := 0) L c (l := l) (xs := xs) (fun g hg => ⟨vs.toArray, (let ⟨o, h1, h2⟩ := hl; ⟨o, hg _ _ h1, h2⟩), by simpa using repsOf hi⟩) (by omega) (μ := Led.none)
  refine wpA (h callerA s.heap s [.ref l] ⟨⟨rfl, by decide, by decide⟩, Kept.refl _, Kept.refl _, ⟨(fun _ _ q => nomatch q), (fun _ _ q => nomatch q)⟩⟩ (.cons (.val _) .nil)) fun v s' q => ?_
  obtain ⟨⟨⟨H, tk, rfl⟩, _⟩, kk, d, μ', rfl, r, _⟩ := q
  cases r
  exact k _ kk rfl rfl
end
end Mine
open PySem PySem.W PyProof.Rows
set_option maxRecDepth 100000 in
set_option maxHeartbeats 8000000 in
open_top hd for PySem.Challenge.rw_pq0927_01
set_option maxRecDepth 100000 in
set_option maxHeartbeats 8000000 in
theorem PySem.Challenge.cw_pq0927_01_holds : PySem.Challenge.rw_pq0927_01.Holds := by
  refine hd ?_
  k_fill
  intro w s₀ s₁ mg mb G Y fa o pm cd doc dV kV ho hd hcd hD hmg hg args vals as hpre hlay hrd hwl hlo
  have KX := kIn_of Y
  refine Ground.open G ?_
  intro T B D TE TW
  wrow_args hpre hlay hrd hwl hlo
  rename_i hL _ _ _ hI _ hlen _
  refine Mine.law_fin KX T ?_ hmg hL hI hlen fun s' k1 k2 k3 => ?_
  · constructor
    case f3 => constructor <;> kernel_rfl
    case f6 => constructor <;> kernel_rfl
    case f7 => constructor <;> kernel_rfl
    case f8 => constructor <;> kernel_rfl
    case f11 => constructor <;> kernel_rfl
    case f12 => constructor <;> kernel_rfl
    case f16 => constructor <;> kernel_rfl
    case f17 => constructor <;> kernel_rfl
    case f18 => constructor <;> kernel_rfl
    case f19 => constructor <;> kernel_rfl
    case f20 => constructor <;> kernel_rfl
    case f21 => constructor <;> kernel_rfl
    case f22 => constructor <;> kernel_rfl
    case b3 => intro v S; kernel_rfl
    case c3 => intro v w u S; kernel_rfl
    case b6 => intro v w S; kernel_rfl
    case b7 => intro v S; kernel_rfl
    case b8 => intro v w S; kernel_rfl
    case b11 => intro v w S; kernel_rfl
    case b12 => intro v w u x S; kernel_rfl
    case b16 => intro v S; kernel_rfl
    case b17 => intro v w S; kernel_rfl
    case b18 => intro v S; kernel_rfl
    case b19 => intro v S; kernel_rfl
    case b20 => intro v w S; kernel_rfl
    case b21 => intro v w u S; kernel_rfl
    case b22 => intro v S; kernel_rfl
    all_goals (repeat' apply And.intro)
    all_goals first | kernel_rfl | (show _ = _; kernel_rfl)
  · refine GoodW.toG ⟨.inl ⟨.bool true, .bool true, [], rfl, fun _ => rfl, .bool true, ?_, fun _ => ⟨.nil, fun _ h => nomatch h⟩⟩, k1, k2, k3.trans hg⟩
    kernel_rfl
