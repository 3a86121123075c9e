import PyProof.Rows.All
import Wide.All
import OpenK.AllK
import Wide.FinOn
import KE.KTryMore
import KE.KFmtOwn
import KE.KBits
import KE.KNestM
import Lean
import PySem.Challenge.RW_nu0355_01
open PySem PySem.Calls PyProof.Rows PySem.W
set_option Elab.async false
set_option maxRecDepth 100000
set_option linter.all false
namespace Mine
theorem nc_seq {a : Array Value} {n : Nat} (v : Option Value) : Data.seq a n ≠ .cell v := nofun
theorem nc_dict {a : Array DictEntry} {n : Nat} (v : Option Value) : Data.dict a n ≠ .cell v := nofun
theorem nc_fields {a : Array Value} (v : Option Value) : Data.fields a ≠ .cell v := nofun
theorem ref_nn {a : Addr} : Value.ref a ≠ .none := nofun
theorem ref_nt {a : Addr} {c : String} : Value.ref a ≠ .type c := nofun
inductive PV where
  | none
  | bool (b : Bool)
  | int (i : Int)
  | str (s : Str)
  | bytes (b : List UInt8)
  | list (xs : List PV)
  | tuple (xs : List PV)
  | ord (c d s o i m : Int)
  | opq (a : Addr)
structure Wd where
  prog : Program
  w : World
  K : Frag
  hB : Heap
  mg : Str -> Option Value
  mb : Str -> Option Value
  tabs : List (Addr × Addr × Str)
  oc : Addr
  ec : Addr
noncomputable def Tabby (o : Obj) : Prop := o.cls = .none /\ ∃ vs, o.data = .fields vs
noncomputable def KeepsBut (Y : Addr -> Prop) (h h' : Heap) : Prop :=
  ∀ b o, h.get? b = some o -> ¬ Y b -> ¬ Tabby o -> ∃ sl, h'.get? b = some { o with slots := sl } /\ (o.cls ≠ .type "frame" -> sl = o.slots)
noncomputable abbrev NoA : Addr -> Prop := fun _ => False
noncomputable abbrev Keeps := KeepsBut NoA
theorem KeepsBut.refl (Y : Addr -> Prop) (h : Heap) : KeepsBut Y h h := fun _ o e _ _ => ⟨o.slots, e, fun _ => rfl⟩
theorem KeepsBut.trans {Y : Addr -> Prop} {h h' h'' : Heap} (x : KeepsBut Y h h') (y : KeepsBut Y h' h'') : KeepsBut Y h h'' := fun b o e hY hc => by
  obtain ⟨sl, e1, f1⟩ := x b o e hY hc
  obtain ⟨sl', e2, f2⟩ := y b _ e1 hY hc
  exact ⟨sl', e2, fun hf => (f2 hf).trans (f1 hf)⟩
theorem KeepsBut.mono {Y Y' : Addr -> Prop} {h h' : Heap} (x : KeepsBut Y h h') (hy : ∀ a, a < h.objs.size -> Y a -> Y' a) : KeepsBut Y' h h' := fun b o e hY hc => x b o e (fun q => hY (hy b (Heap.lt_size e) q)) hc
theorem KeepsBut.of_all {h h' : Heap} (k : ∀ b o, h.get? b = some o -> h'.get? b = some o) : Keeps h h' := fun b o e _ _ => ⟨o.slots, k b o e, fun _ => rfl⟩
theorem KeepsBut.of_extBut {Y : Addr -> Prop} {a : Addr} {h h' : Heap} (k : Heap.ExtBut a h h') (hy : Y a) : KeepsBut Y h h' := fun b o e hY _ => ⟨o.slots, k b o (fun q => hY (q ▸ hy)) e, fun _ => rfl⟩
theorem KeepsBut.get {Y : Addr -> Prop} {h h' : Heap} (x : KeepsBut Y h h') {b : Addr} {o : Obj} (e : h.get? b = some o) (hY : ¬ Y b) (hc : o.cls ≠ .none) (hf : o.cls ≠ .type "frame") : h'.get? b = some o := by
  obtain ⟨sl, e1, f1⟩ := x b o e hY (fun q => hc q.1)
  rw [e1, f1 hf]
noncomputable def ordEnts (c d s o i m : Int) (hs : Nat -> Int) (ts us : Nat -> Tok) : List DictEntry :=
  [⟨hs 0, .str "code" (ts 0), .int c (us 0)⟩, ⟨hs 1, .str "dst" (ts 1), .int d (us 1)⟩, ⟨hs 2, .str "src" (ts 2), .int s (us 2)⟩,
   ⟨hs 3, .str "off" (ts 3), .int o (us 3)⟩, ⟨hs 4, .str "imm" (ts 4), .int i (us 4)⟩, ⟨hs 5, .str "more" (ts 5), .int m (us 5)⟩]
mutual
inductive Rep (W : Wd) (h : Heap) (X : Addr -> Prop) : Value -> PV -> Prop
  | none : Rep W h X .none .none
  | bool (b : Bool) : Rep W h X (.bool b) (.bool b)
  | int (i : Int) (t : Tok) : Rep W h X (.int i t) (.int i)
  | str (x : Str) (t : Tok) : Rep W h X (.str x t) (.str x)
  | bytes (b : List UInt8) (t : Tok) : Rep W h X (.bytes b.toArray t) (.bytes b)
  | list {a : Addr} {o : Obj} {vs : List Value} {n : Nat} {xs : List PV} (e : h.get? a = some o) (hc : o.cls = .type "list") (hd : o.data = .seq vs.toArray n) (hX : ¬ X a) (hn : o.dict = .none) (r : Reps W h X vs xs) : Rep W h X (.ref a) (.list xs)
  | tuple {a : Addr} {o : Obj} {vs : List Value} {n : Nat} {xs : List PV} (e : h.get? a = some o) (hc : o.cls = .type "tuple") (hd : o.data = .seq vs.toArray n) (hX : ¬ X a) (r : Reps W h X vs xs) : Rep W h X (.ref a) (.tuple xs)
  | ord {a dx : Addr} {c d s o i m : Int} {hs : Nat -> Int} {ts us : Nat -> Tok} {n : Nat} (e : h.get? a = some (instObj W.oc dx)) (ed : h.get? dx = some (dictOf (ordEnts c d s o i m hs ts us) n)) (hX : ¬ X a) (hX' : ¬ X dx) : Rep W h X (.ref a) (.ord c d s o i m)
  | opq (a : Addr) : Rep W h X (.ref a) (.opq a)
inductive Reps (W : Wd) (h : Heap) (X : Addr -> Prop) : List Value -> List PV -> Prop
  | nil : Reps W h X [] []
  | cons {v : Value} {vs : List Value} {x : PV} {xs : List PV} (r : Rep W h X v x) (rs : Reps W h X vs xs) : Reps W h X (v :: vs) (x :: xs)
end
theorem dict_ne_frame : Value.type "dict" ≠ Value.type "frame" := by decide
section
variable {W : Wd} {h h' : Heap} {X X' Y : Addr -> Prop}
theorem Reps.ind {C : List Value -> List PV -> Prop} (n : C [] []) (c : ∀ {v vs x xs}, Rep W h X v x -> Reps W h X vs xs -> C vs xs -> C (v :: vs) (x :: xs)) {vs : List Value} {ps : List PV} (r : Reps W h X vs ps) : C vs ps :=
  r.rec (motive_1 := fun _ _ _ => True) (motive_2 := fun vs ps _ => C vs ps) trivial (fun _ => trivial) (fun _ _ => trivial) (fun _ _ => trivial) (fun _ _ => trivial) (fun _ _ _ _ _ _ _ => trivial) (fun _ _ _ _ _ _ => trivial) (fun _ _ _ _ => trivial) (fun _ => trivial) n fun a b _ d => c a b d
theorem Rep.alter (k : ∀ {a : Addr} {o : Obj}, h.get? a = some o -> ¬ X a -> o.cls ≠ .none -> o.cls ≠ .type "frame" -> h'.get? a = some o) (hX : ∀ {a : Addr} {o : Obj}, h.get? a = some o -> ¬ X a -> ¬ X' a) {v : Value} {p : PV} (r : Rep W h X v p) : Rep W h' X' v p :=
  r.rec (motive_1 := fun v p _ => Rep W h' X' v p) (motive_2 := fun vs ps _ => Reps W h' X' vs ps) .none .bool .int .str .bytes
    (fun e hc hd q hn _ ih => .list (k e q (by rw [hc]; exact nofun) (by rw [hc]; decide)) hc hd (hX e q) hn ih)
    (fun e hc hd q _ ih => .tuple (k e q (by rw [hc]; exact nofun) (by rw [hc]; decide)) hc hd (hX e q) ih)
    (fun e ed q q' => .ord (k e q nofun nofun) (k ed q' nofun dict_ne_frame) (hX e q) (hX ed q')) .opq .nil fun _ _ a b => .cons a b
theorem Rep.keeps (k : KeepsBut Y h h') (hy : ∀ a, Y a -> X a) {v : Value} {p : PV} (r : Rep W h X v p) : Rep W h' X v p := r.alter (fun e q => k.get e fun z => q (hy _ z)) fun _ q => q
theorem Rep.widen (hx : ∀ a, a < h.objs.size -> X' a -> X a) {v : Value} {p : PV} (r : Rep W h X v p) : Rep W h X' v p := r.alter (fun e _ _ _ => e) fun e q z => q (hx _ (Heap.lt_size e) z)
theorem Reps.keeps (k : KeepsBut Y h h') (hy : ∀ a, Y a -> X a) {vs : List Value} {ps : List PV} (r : Reps W h X vs ps) : Reps W h' X vs ps := r.ind .nil fun a _ b => .cons (a.keeps k hy) b
theorem Reps.widen (hx : ∀ a, a < h.objs.size -> X' a -> X a) {vs : List Value} {ps : List PV} (r : Reps W h X vs ps) : Reps W h X' vs ps := r.ind .nil fun a _ b => .cons (a.widen hx) b
theorem Reps.length {vs : List Value} {ps : List PV} (r : Reps W h X vs ps) : vs.length = ps.length := r.ind (C := fun vs ps => vs.length = ps.length) rfl fun _ _ b => congrArg Nat.succ b
theorem Reps.get {vs : List Value} {ps : List PV} (r : Reps W h X vs ps) : ∀ {i : Nat} {p : PV}, ps[i]? = some p -> ∃ v, vs[i]? = some v /\ Rep W h X v p :=
  r.ind (C := fun vs ps => ∀ {i : Nat} {p : PV}, ps[i]? = some p -> ∃ v, vs[i]? = some v /\ Rep W h X v p) (fun e => nomatch e) fun {v vs x xs} a _ b {i p} e => by
    induction i using Nat.casesOn with
    | zero => exact ⟨v, rfl, Option.some.inj e ▸ a⟩
    | succ i => exact b (i := i) e
theorem Reps.append {vs : List Value} {ps : List PV} {us : List Value} {qs : List PV} (r : Reps W h X vs ps) (y : Reps W h X us qs) : Reps W h X (vs ++ us) (ps ++ qs) := r.ind (C := fun vs ps => Reps W h X (vs ++ us) (ps ++ qs)) y fun a _ b => .cons a b
theorem Reps.take {vs : List Value} {ps : List PV} (r : Reps W h X vs ps) : ∀ n, Reps W h X (vs.take n) (ps.take n) :=
  r.ind (C := fun vs ps => ∀ n, Reps W h X (vs.take n) (ps.take n)) (fun n => by rw [List.take_nil, List.take_nil]; exact .nil) fun a _ b n => by
    induction n using Nat.casesOn with
    | zero => exact .nil
    | succ n => exact .cons a (b n)
theorem Reps.drop {vs : List Value} {ps : List PV} (r : Reps W h X vs ps) : ∀ n, Reps W h X (vs.drop n) (ps.drop n) :=
  r.ind (C := fun vs ps => ∀ n, Reps W h X (vs.drop n) (ps.drop n)) (fun n => by rw [List.drop_nil, List.drop_nil]; exact .nil) fun a c b n => by
    induction n using Nat.casesOn with
    | zero => exact .cons a c
    | succ n => exact b n
noncomputable def RepInv (W : Wd) (h : Heap) (X : Addr -> Prop) (v : Value) (p : PV) : Prop := match p with
  | .none => v = .none
  | .bool b => v = .bool b
  | .int i => ∃ t, v = .int i t
  | .str x => ∃ t, v = .str x t
  | .bytes b => ∃ t, v = .bytes b.toArray t
  | .list xs => ∃ a o vs n, v = .ref a /\ h.get? a = some o /\ o.cls = .type "list" /\ o.data = .seq vs.toArray n /\ ¬ X a /\ o.dict = .none /\ Reps W h X vs xs
  | .tuple xs => ∃ a o vs n, v = .ref a /\ h.get? a = some o /\ o.cls = .type "tuple" /\ o.data = .seq vs.toArray n /\ ¬ X a /\ Reps W h X vs xs
  | .ord c d s o i m => ∃ a dx hs ts us n, v = .ref a /\ h.get? a = some (instObj W.oc dx) /\ h.get? dx = some (dictOf (ordEnts c d s o i m hs ts us) n) /\ ¬ X a /\ ¬ X dx
  | .opq a => v = .ref a
theorem Rep.inv {v : Value} {p : PV} (r : Rep W h X v p) : RepInv W h X v p :=
  r.casesOn (motive_1 := fun v p _ => RepInv W h X v p) rfl (fun _ => rfl) (fun _ t => ⟨t, rfl⟩) (fun _ t => ⟨t, rfl⟩) (fun _ t => ⟨t, rfl⟩) (fun e hc hd q hn rs => ⟨_, _, _, _, rfl, e, hc, hd, q, hn, rs⟩) (fun e hc hd q rs => ⟨_, _, _, _, rfl, e, hc, hd, q, rs⟩) (fun e ed q q' => ⟨_, _, _, _, _, _, rfl, e, ed, q, q'⟩) fun _ => rfl
theorem Rep.isNone {v : Value} (r : Rep W h X v .none) : v = .none := r.inv
theorem Rep.isBool {v : Value} {b : Bool} (r : Rep W h X v (.bool b)) : v = .bool b := r.inv
theorem Rep.isInt {v : Value} {i : Int} (r : Rep W h X v (.int i)) : ∃ t, v = .int i t := r.inv
theorem Rep.isStr {v : Value} {x : Str} (r : Rep W h X v (.str x)) : ∃ t, v = .str x t := r.inv
theorem Rep.isBytes {v : Value} {b : List UInt8} (r : Rep W h X v (.bytes b)) : ∃ t, v = .bytes b.toArray t := r.inv
theorem Rep.isList {v : Value} {xs : List PV} (r : Rep W h X v (.list xs)) : ∃ a o vs n, v = .ref a /\ h.get? a = some o /\ o.cls = .type "list" /\ o.data = .seq vs.toArray n /\ ¬ X a /\ o.dict = .none /\ Reps W h X vs xs := r.inv
theorem Rep.isTuple {v : Value} {xs : List PV} (r : Rep W h X v (.tuple xs)) : ∃ a o vs n, v = .ref a /\ h.get? a = some o /\ o.cls = .type "tuple" /\ o.data = .seq vs.toArray n /\ ¬ X a /\ Reps W h X vs xs := r.inv
theorem Rep.isOrd {v : Value} {c d s o i m : Int} (r : Rep W h X v (.ord c d s o i m)) : ∃ a dx hs ts us n, v = .ref a /\ h.get? a = some (instObj W.oc dx) /\ h.get? dx = some (dictOf (ordEnts c d s o i m hs ts us) n) /\ ¬ X a /\ ¬ X dx := r.inv
theorem Rep.isOpq {v : Value} {a : Addr} (r : Rep W h X v (.opq a)) : v = .ref a := r.inv
noncomputable def RepsInv (W : Wd) (h : Heap) (X : Addr -> Prop) (vs : List Value) (ps : List PV) : Prop := match ps with
  | [] => vs = []
  | x :: xs => ∃ v us, vs = v :: us /\ Rep W h X v x /\ Reps W h X us xs
theorem Reps.inv {vs : List Value} {ps : List PV} (r : Reps W h X vs ps) : RepsInv W h X vs ps := r.casesOn (motive_2 := fun vs ps _ => RepsInv W h X vs ps) rfl fun a b => ⟨_, _, rfl, a, b⟩
theorem Reps.isNil {vs : List Value} (r : Reps W h X vs []) : vs = [] := r.inv
theorem Reps.isCons {vs : List Value} {x : PV} {xs : List PV} (r : Reps W h X vs (x :: xs)) : ∃ v us, vs = v :: us /\ Rep W h X v x /\ Reps W h X us xs := r.inv
theorem Reps.popInt {vs : List Value} {i : Int} {xs : List PV} (r : Reps W h X vs (.int i :: xs)) : ∃ t us, vs = .int i t :: us /\ Reps W h X us xs := by
  obtain ⟨v, us, rfl, a, b⟩ := r.isCons
  obtain ⟨t, rfl⟩ := a.isInt
  exact ⟨t, us, rfl, b⟩
theorem Reps.is1 {vs : List Value} {x : PV} (r : Reps W h X vs [x]) : ∃ v, vs = [v] /\ Rep W h X v x := by
  obtain ⟨v, us, rfl, a, b⟩ := r.isCons
  exact ⟨v, by rw [b.isNil], a⟩
theorem Reps.is2 {vs : List Value} {x y : PV} (r : Reps W h X vs [x, y]) : ∃ v u, vs = [v, u] /\ Rep W h X v x /\ Rep W h X u y := by
  obtain ⟨v, us, rfl, a, b⟩ := r.isCons
  obtain ⟨u, rfl, c⟩ := b.is1
  exact ⟨v, u, rfl, a, c⟩
end
structure Base (W : Wd) (h : Heap) : Prop where
  old : ∀ b o, W.hB.get? b = some o -> (∀ x ∈ W.tabs, x.2.1 ≠ b) -> h.get? b = some o
  tab : ∀ x ∈ W.tabs, ∃ ps, h.get? x.2.1 = some (tabObj ps) /\ TriplesOk ps.toList /\ ∀ pos cv, codeAmong pos ps.toList = some cv -> h.CodeRec cv x.2.2 /\ ∃ c' o, cv = .ref c' /\ h.get? c' = some o /\ o.cls = .type "code"
  size : W.hB.objs.size <= h.objs.size
structure Wd.Ok (W : Wd) : Prop where
  g : W.hB.Ns mainGlobals W.mg
  b : W.hB.Ns builtinsNs W.mb
  nolim : W.hB.NoLimit
  K : ∀ a o, W.K.lookup a = some o -> W.hB.get? a = some o
  free : ∀ x ∈ W.tabs, x.2.1 ≠ mainGlobals /\ x.2.1 ≠ builtinsNs /\ x.2.1 ≠ cStatics
  Kfree : ∀ a o, W.K.lookup a = some o -> ∀ x ∈ W.tabs, x.2.1 ≠ a
  hd : ∀ x ∈ W.tabs, CodeHd W.hB x.1 x.2.1
  bat : ∀ x ∈ W.tabs, W.hB.BuiltinsAt W.mg x.2.1
  apart : ∀ x ∈ W.tabs, ∀ y ∈ W.tabs, x.2.1 = y.2.1 -> x = y
  tabB : ∀ x ∈ W.tabs, ∃ o vs, W.hB.get? x.2.1 = some o /\ o.data = .fields vs /\ o.cls = .none
section
variable {W : Wd} {h h' : Heap}
theorem Wd.Ok.inK (O : W.Ok) (B : Base W h) : W.K.In h := fun a o e => B.old a o (O.K a o e) (O.Kfree a o e)
theorem Wd.Ok.nsg (O : W.Ok) (B : Base W h) : h.Ns mainGlobals W.mg := by
  obtain ⟨o, es, ep, ho, r⟩ := O.g
  exact ⟨o, es, ep, B.old _ _ ho (fun x hx => (O.free x hx).1), r⟩
theorem Wd.Ok.nsb (O : W.Ok) (B : Base W h) : h.Ns builtinsNs W.mb := by
  obtain ⟨o, es, ep, ho, r⟩ := O.b
  exact ⟨o, es, ep, B.old _ _ ho (fun x hx => (O.free x hx).2.1), r⟩
theorem Wd.Ok.lim (O : W.Ok) (B : Base W h) : h.NoLimit := by
  obtain ⟨mc, ⟨o, es, ep, ho, r⟩, q⟩ := O.nolim
  exact ⟨mc, ⟨o, es, ep, B.old _ _ ho (fun x hx => (O.free x hx).2.2), r⟩, q⟩
theorem Base.keeps (B : Base W h) (k : ∀ b o, h.get? b = some o -> h'.get? b = some o) (hs : h.objs.size <= h'.objs.size) : Base W h' where
  old := fun b o e f => k b o (B.old b o e f)
  tab := fun x hx => let ⟨ps, e, t, r⟩ := B.tab x hx; ⟨ps, k _ _ e, t, fun pos cv hc => let ⟨a, c', o, b, d, f⟩ := r pos cv hc; ⟨a.keeps k, c', o, b, k _ _ d, f⟩⟩
  size := Nat.le_trans B.size hs
theorem Base.extBut (B : Base W h) {a : Addr} {oa : Obj} (ea : h.get? a = some oa) (ha : W.hB.objs.size <= a) (hd : ∀ vs, oa.data ≠ .fields vs) (k : Heap.ExtBut a h h') (hs : h.objs.size <= h'.objs.size) : Base W h' where
  old := fun b o e f => k b o (Nat.ne_of_lt (Nat.lt_of_lt_of_le (Heap.lt_size e) ha)) (B.old b o e f)
  tab := fun x hx => by
    have ne : ∀ {b o vs}, h.get? b = some o -> o.data = .fields vs -> b ≠ a := fun e d q => by
      rw [q, ea] at e
      exact hd _ (Option.some.inj e ▸ d)
    obtain ⟨ps, e, t, r⟩ := B.tab x hx
    refine ⟨ps, k _ _ (ne e rfl) e, t, fun pos cv hc => ?_⟩
    obtain ⟨⟨c, o, vs, tk, e1, e2, e3, e4⟩, c', o', b, d, f⟩ := r pos cv hc
    have e2' := k _ _ (ne e2 e3) e2
    rw [b] at e1
    have ec : c' = c := Value.ref.inj e1
    rw [ec] at d
    exact ⟨⟨c', o, vs, tk, b, ec ▸ e2', e3, e4⟩, c', o', b, ec ▸ (Option.some.inj (e2.symm.trans d) ▸ e2'), f⟩
  size := Nat.le_trans B.size hs
end
noncomputable def Stk (W : Wd) (l : List Env) (h : Heap) : Prop :=
  ∀ env ∈ l, env.scope.kind = .function /\ ∃ L o es n, env.frame = some L /\ W.hB.objs.size <= L /\ h.get? L = some o /\ o.cls = .type "frame" /\ o.data = .dict es n
noncomputable def FrOk (h h' : Heap) : Prop := ∀ b o es n, h.get? b = some o -> o.cls = .type "frame" -> o.data = .dict es n -> ∃ o' es' n', h'.get? b = some o' /\ o'.cls = .type "frame" /\ o'.data = .dict es' n'
structure Step (W : Wd) (Y : Addr -> Prop) (s s' : Shared) : Prop where
  keeps : KeepsBut Y s.heap s'.heap
  base : Base W s'.heap
  size : s.heap.objs.size <= s'.heap.objs.size
  gens : s'.gens = s.gens
  os : s'.os = s.os
  fr : FrOk s.heap s'.heap
section
variable {W : Wd} {Y Y' : Addr -> Prop} {s s' s'' : Shared}
theorem FrOk.refl (h : Heap) : FrOk h h := fun b o es n e c d => ⟨o, es, n, e, c, d⟩
theorem FrOk.trans {h h' h'' : Heap} (x : FrOk h h') (y : FrOk h' h'') : FrOk h h'' := fun b o es n e c d => let ⟨o', es', n', e', c', d'⟩ := x b o es n e c d; y b o' es' n' e' c' d'
theorem FrOk.of_all {h h' : Heap} (k : ∀ b o, h.get? b = some o -> h'.get? b = some o) : FrOk h h' := fun b o es n e c d => ⟨o, es, n, k b o e, c, d⟩
theorem Step.refl (B : Base W s.heap) : Step W Y s s := ⟨KeepsBut.refl _ _, B, Nat.le_refl _, rfl, rfl, FrOk.refl _⟩
theorem Step.trans (x : Step W Y s s') (y : Step W Y s' s'') : Step W Y s s'' :=
  ⟨x.keeps.trans y.keeps, y.base, Nat.le_trans x.size y.size, y.gens.trans x.gens, y.os.trans x.os, x.fr.trans y.fr⟩
theorem Step.mono (x : Step W Y s s') (hy : ∀ a, a < s.heap.objs.size -> Y a -> Y' a) : Step W Y' s s' := { x with keeps := x.keeps.mono hy }
theorem Step.no (x : Step W NoA s s') : Step W Y s s' := x.mono fun _ _ f => f.elim
theorem Step.of_all {h' : Heap} {tk : Nat} {d : Drawn} (B : Base W s.heap) (k : ∀ b o, s.heap.get? b = some o -> h'.get? b = some o) (hs : s.heap.objs.size <= h'.objs.size) : Step W Y s { s with heap := h', toks := tk, drawn := d } :=
  ⟨(KeepsBut.of_all k).mono (fun _ _ f => f.elim), B.keeps k hs, hs, rfl, rfl, FrOk.of_all k⟩
theorem Step.toks {tk : Nat} (B : Base W s.heap) : Step W Y s { s with toks := tk } := Step.of_all B (fun _ _ e => e) (Nat.le_refl _)
theorem Step.push {o : Obj} {tk : Nat} (B : Base W s.heap) : Step W Y s { s with heap := s.heap.push o, toks := tk } := Step.of_all B (fun _ _ e => Heap.get?_push_of_some _ e) (by rw [Heap.size_push]; omega)
theorem Step.back {old : Nat} (x : Step W NoA s s') (ho : s.heap.objs.size = old) (y : Step W (fun a => old <= a) s' s'') : Step W NoA s s'' := by
  have z := (x.mono (Y' := fun a => old <= a) fun _ _ f => f.elim).trans y
  exact z.mono fun a ha hq => by omega
theorem Stk.step {l : List Env} {h h' : Heap} (x : Stk W l h) (f : FrOk h h') : Stk W l h' := fun env he => by
  obtain ⟨hk, L, o, es, n, hf, hb, ho, hc, hd⟩ := x env he
  obtain ⟨o', es', n', e', c', d'⟩ := f L o es n ho hc hd
  exact ⟨hk, L, o', es', n', hf, hb, e', c', d'⟩
theorem funFrames_of {h : Heap} : ∀ {l : List Env}, Stk W l h -> h.FunFrames {} l
  | [], _ => trivial
  | env :: r, x => by
    obtain ⟨hk, L, o, es, n, hf, hb, ho, hc, hd⟩ := x env (.head _)
    exact ⟨by rw [hk]; exact nofun, ⟨L, o, hf, rfl, ho, fun vs q => by rw [hd] at q; cases q⟩, funFrames_of fun e he => x e (.tail _ he)⟩
theorem Stk.frame {h : Heap} {l : List Env} (x : Stk W l h) {b : Addr} (hb : b ∈ l.filterMap (·.frame)) : W.hB.objs.size <= b /\ ∃ o es n, h.get? b = some o /\ o.cls = .type "frame" /\ o.data = .dict es n := by
  obtain ⟨env, he, hf⟩ := List.mem_filterMap.mp hb
  obtain ⟨hk, L, o, es, n, hf', hl, ho, hc, hd⟩ := x env he
  cases hf.symm.trans hf'
  exact ⟨hl, o, es, n, ho, hc, hd⟩
end
noncomputable def Exc (W : Wd) (h : Heap) (X : Addr -> Prop) (old : Nat) (fl : Option Value -> Prop) (e : Value) (pa : PV) : Prop :=
  ∃ (ea dx : Addr) (vs : Array Value) (what : Str) (t1 t2 tw : Tok) (hs1 hs2 : Int) (n : Nat) (va : Value) (sl sld : Array (Option Value)),
    e = .ref ea /\ old <= ea /\ old <= dx /\ h.get? ea = some { cls := .ref W.ec, dict := some dx, data := .fields vs, slots := sl } /\ (vs.size = 6 /\ (pa = .none -> vs[2]? = some .none)) /\
    h.get? dx = some { cls := .type "dict", data := .dict #[⟨hs1, .str "what" t1, .str what tw⟩, ⟨hs2, .str "at" t2, va⟩] n, slots := sld } /\ Rep W h X va pa /\
    ((vs[1]? = some .none /\ fl none) \/ ∃ (T : Addr) (oT : Obj) (ts : Array Value) (f : Value), vs[1]? = some (.ref T) /\ T ≠ ea /\ old <= T /\ h.get? T = some oT /\ oT.cls = .type "traceback" /\ oT.data = .fields ts /\ ts[3]? = some f /\ fl (some f))
noncomputable abbrev Fl0 : Option Value -> Prop := fun o => o = none \/ o = some .none
noncomputable abbrev Fl1 (L : Addr) : Option Value -> Prop := fun o => o = none \/ o = some .none \/ o = some (rawInt L)
noncomputable abbrev FlAt (L : Addr) : Option Value -> Prop := fun o => o = some (rawInt L)
noncomputable abbrev FlNo : Option Value -> Prop := fun o => o = some .none
section
variable {W : Wd} {X Y : Addr -> Prop} {old : Nat} {h h' : Heap} {fl fl' : Option Value -> Prop} {e : Value} {pa : PV}
theorem Exc.mono (x : Exc W h X old fl e pa) {old' : Nat} (ho : old' <= old) (hf : ∀ o, fl o -> fl' o) : Exc W h X old' fl' e pa := by
  obtain ⟨ea, dx, vs, what, t1, t2, tw, hs1, hs2, n, va, sl, sld, q1, q2, q3, q4, q5, q6, q7, q8⟩ := x
  refine ⟨ea, dx, vs, what, t1, t2, tw, hs1, hs2, n, va, sl, sld, q1, by omega, by omega, q4, q5, q6, q7, ?_⟩
  rcases q8 with ⟨a, b⟩ | ⟨T, oT, ts, f, r1, r2, r3, r4, r5, r6, r7, r8⟩
  · exact .inl ⟨a, hf _ b⟩
  · exact .inr ⟨T, oT, ts, f, r1, r2, by omega, r4, r5, r6, r7, hf _ r8⟩
theorem Exc.flow (x : Exc W h X old fl e pa) (hf : ∀ o, fl o -> fl' o) : Exc W h X old fl' e pa := x.mono (Nat.le_refl _) hf
end
section
variable {M : Model} {A : Around} {E : Value -> Shared -> Prop} {s : Shared} {W : Wd}
theorem frameOf_any {env e0 : Env} {rest : List Env} {L : Addr} {Q : Value -> Shared -> Prop} (hfr : A.frames = some (e0 :: rest)) (St : Stk W (e0 :: rest) s.heap) (hf0 : e0.frame = some L) (hf : env.frame = some L)
    (h : ∀ h', Heap.SlotsOnly ((e0 :: rest).filterMap (·.frame)) s.heap h' -> Q (.ref L) { s with heap := h' }) : wpAny M A (PySem.frameOf env) Q E s := by
  unfold PySem.frameOf
  refine wpAny_bind (wpAny_frameEnvs hfr ?_)
  have hdw : ((e0 :: rest).dropWhile fun x => x.frame != env.frame) = e0 :: rest := by simp [List.dropWhile, hf0, hf]
  rw [hdw]
  unfold frameObject
  refine wpAny_bind (wpAny_bind (wpAny_readyFrames_fun (funFrames_of St) fun h₁ hs₁ => wpAny_pure ?_))
  rw [hf0]
  exact wpAny_pure (h h₁ hs₁)
theorem entry_any {env e0 : Env} {rest : List Env} {L e : Addr} {oe : Obj} {vs : Array Value} {head : Value} {hadNext : Bool} {Q : Unit -> Shared -> Prop}
    (hfr : A.frames = some (e0 :: rest)) (St : Stk W (e0 :: rest) s.heap) (hf0 : e0.frame = some L) (hf : env.frame = some L) (B : Base W s.heap)
    (he : s.heap.get? e = some oe) (hec : oe.cls = .ref W.ec) (heB : W.hB.objs.size <= e) (hd : oe.data = .fields vs) (hsz : 1 < vs.size) (hnc : oe.cls ≠ .type "code")
    (h : ∀ h' T ts, Step W (fun a => a = e) s { s with heap := h' } -> h'.get? e = some { oe with data := .fields (vs.setIfInBounds 1 (.ref T)) } -> s.heap.objs.size <= T ->
      h'.get? T = some { cls := .type "traceback", data := .fields ts } -> ts[3]? = some (rawInt L) -> Q () { s with heap := h' }) :
    wpAny M A (do let a <- PySem.frameOf env; let pl <- entryPlaceOf L hadNext; let b <- EntryCells.newEntry head a .none (rawInt L) .none pl; setField (.ref e) 1 b) Q E s := by
  have hene : e ∉ (e0 :: rest).filterMap (·.frame) := fun hm => by
    obtain ⟨_, o, es, n, ho, hc, _⟩ := St.frame hm
    rw [he] at ho; injection ho with ho; subst ho; rw [hec] at hc; cases hc
  refine wpAny_bind (frameOf_any hfr St hf0 hf fun h₁ hs₁ => ?_)
  refine wpAny_bind (wpAny_entryPlaceOf fun pl hpl => ?_)
  unfold EntryCells.newEntry newFields
  refine wpAny_bind (wpAny_newObj_type ?_ (hpl.sizeOk5 _ _ _ _ _))
  have he₁ : h₁.get? e = some oe := (hs₁.2.1 e hene).trans he
  have he₂ := Heap.get?_push_of_some (h := h₁) { cls := .type "traceback", dict := none, data := .fields ([head, .ref L, .none, rawInt L, .none] ++ (if pl.isEmpty then List.replicate 6 Value.none else pl)).toArray } he₁
  refine wpAny_setField he₂ hd hsz ?_
  have hTe : h₁.objs.size ≠ e := Nat.ne_of_gt (Heap.lt_size he₁)
  have hd₃ := Obj.data_mapFields hd (·.setIfInBounds 1 (Value.ref h₁.objs.size))
  have he₃ := Heap.get?_update_self (Obj.mapFields (·.setIfInBounds 1 (Value.ref h₁.objs.size))) he₂ (Obj.isFreed_of_fields hd₃)
  have hT₃ := (Heap.get?_update_other (h₁.push { cls := .type "traceback", dict := none, data := .fields ([head, .ref L, .none, rawInt L, .none] ++ (if pl.isEmpty then List.replicate 6 Value.none else pl)).toArray })
    (Obj.mapFields (·.setIfInBounds 1 (Value.ref h₁.objs.size))) (Ne.symm hTe)).trans (Heap.get?_push_size h₁ rfl)
  have same : ∀ b o, b ≠ e -> h₁.get? b = some o -> ((h₁.push { cls := .type "traceback", dict := none, data := .fields ([head, .ref L, .none, rawInt L, .none] ++ (if pl.isEmpty then List.replicate 6 Value.none else pl)).toArray }).update e (Obj.mapFields (·.setIfInBounds 1 (Value.ref h₁.objs.size)))).get? b = some o :=
    fun b o hb e' => (Heap.get?_update_other _ _ (Ne.symm hb)).trans (Heap.get?_push_of_some _ e')
  have turn : ∀ b o, b ≠ e -> s.heap.get? b = some o -> ∃ sl, ((h₁.push { cls := .type "traceback", dict := none, data := .fields ([head, .ref L, .none, rawInt L, .none] ++ (if pl.isEmpty then List.replicate 6 Value.none else pl)).toArray }).update e (Obj.mapFields (·.setIfInBounds 1 (Value.ref h₁.objs.size)))).get? b = some { o with slots := sl } /\ ((o.cls ≠ .type "frame" \/ b < W.hB.objs.size) -> sl = o.slots) := fun b o hb e' => by
    by_cases hm : b ∈ (e0 :: rest).filterMap (·.frame)
    · obtain ⟨sl, e2⟩ := hs₁.2.2 b o e'
      refine ⟨sl, same b _ hb e2, fun q => ?_⟩
      obtain ⟨hB, o', es, n, ho, hc, _⟩ := St.frame hm
      cases e'.symm.trans ho
      rcases q with q | q
      · exact (q hc).elim
      · exact absurd hB (Nat.not_le.mpr q)
    · exact ⟨o.slots, same b o hb ((hs₁.2.1 b hm).trans e'), fun _ => rfl⟩
  have hsize : ((h₁.push { cls := .type "traceback", dict := none, data := .fields ([head, .ref L, .none, rawInt L, .none] ++ (if pl.isEmpty then List.replicate 6 Value.none else pl)).toArray }).update e (Obj.mapFields (·.setIfInBounds 1 (Value.ref h₁.objs.size)))).objs.size = s.heap.objs.size + 1 := by
    rw [Heap.size_after_update, Heap.size_push, hs₁.1]
  refine h _ h₁.objs.size _ ⟨fun b o e' hY _ => ?_, ⟨fun b o e' f => ?_, fun x hx => ?_, ?_⟩, ?_, rfl, rfl, fun b o es n e' hc hdd => ?_⟩ ?_ (by rw [hs₁.1]; exact Nat.le_refl _) hT₃ ?_
  · obtain ⟨sl, a, f⟩ := turn b o hY e'
    exact ⟨sl, a, fun q => f (.inl q)⟩
  · have hlt := Heap.lt_size e'
    obtain ⟨sl, a, f'⟩ := turn b o (Nat.ne_of_lt (Nat.lt_of_lt_of_le hlt heB)) (B.old b o e' f)
    rw [a, f' (.inr hlt)]
  · obtain ⟨ps, e1, t1, r⟩ := B.tab x hx
    have hne : x.2.1 ≠ e := fun q => by rw [q, he] at e1; cases e1; cases hec
    obtain ⟨sl, a, f'⟩ := turn _ _ hne e1
    have : sl = #[] := f' (.inl nofun)
    subst this
    refine ⟨ps, a, t1, fun pos cv hcv => ?_⟩
    obtain ⟨⟨c, o, vs', tk, g1, g2, g3, g4⟩, c', o', b1, d1, f1⟩ := r pos cv hcv
    obtain rfl : c' = c := by cases b1.symm.trans g1; rfl
    obtain rfl : o' = o := Option.some.inj (d1.symm.trans g2)
    have hne' : c' ≠ e := fun q => by rw [q, he] at d1; cases d1; exact hnc f1
    obtain ⟨sl2, a2, f2⟩ := turn c' o' hne' d1
    have : sl2 = o'.slots := f2 (.inl (by rw [f1]; decide))
    subst this
    exact ⟨⟨c', _, vs', tk, b1, a2, g3, g4⟩, c', _, b1, a2, f1⟩
  · rw [hsize]; exact Nat.le_succ_of_le B.size
  · show s.heap.objs.size <= _; rw [hsize]; exact Nat.le_succ _
  · have hne : b ≠ e := fun q => by rw [q, he] at e'; cases e'; rw [hec] at hc; cases hc
    obtain ⟨sl, a, _⟩ := turn b o hne e'
    exact ⟨_, es, n, a, hc, hdd⟩
  · rw [he₃]
    obtain ⟨oc, od, oda, osl⟩ := oe
    dsimp only at hd
    subst hd
    rfl
  · first | (simp; done) | (rcases hpl with rfl | ⟨_, _, _, _, _, _, _, rfl⟩ <;> simp)
end
noncomputable def NoDatum (o : Obj) : Prop := (∀ xs n, o.data ≠ .seq xs n) /\ o.data ≠ .plain /\ ∀ es n, o ≠ dictOf es n
theorem NoDatum.fields {o : Obj} {vs : Array Value} (h : o.data = .fields vs) : NoDatum o := ⟨fun _ _ q => (by rw [h] at q; cases q), fun q => (by rw [h] at q; cases q), fun _ _ q => (by rw [q] at h; cases h)⟩
theorem NoDatum.cell {o : Obj} {v : Option Value} (h : o.data = .cell v) : NoDatum o := ⟨fun _ _ q => (by rw [h] at q; cases q), fun q => (by rw [h] at q; cases q), fun _ _ q => (by rw [q] at h; cases h)⟩
theorem NoDatum.frame {o : Obj} {es : Array DictEntry} {n : Nat} (hc : o.cls = .type "frame") (h : o.data = .dict es n) : NoDatum o := ⟨fun _ _ q => (by rw [h] at q; cases q), fun q => (by rw [h] at q; cases q), fun _ _ q => (by rw [q] at hc; exact absurd hc dict_ne_frame)⟩
section
variable {W : Wd} {h : Heap} {X Y : Addr -> Prop}
theorem Rep.apartY (hn : ∀ a, Y a -> ∀ o, h.get? a = some o -> NoDatum o) {v : Value} {p : PV} (r : Rep W h X v p) : Rep W h (fun a => X a \/ Y a) v p :=
  r.rec (motive_1 := fun v p _ => Rep W h (fun a => X a \/ Y a) v p) (motive_2 := fun vs ps _ => Reps W h (fun a => X a \/ Y a) vs ps) .none .bool .int .str .bytes
    (fun e1 hc hd hX h0 _ ih => .list e1 hc hd (fun q => q.elim hX fun q => (hn _ q _ e1).1 _ _ hd) h0 ih)
    (fun e1 hc hd hX _ ih => .tuple e1 hc hd (fun q => q.elim hX fun q => (hn _ q _ e1).1 _ _ hd) ih)
    (fun e1 ed hX hX' => .ord e1 ed (fun q => q.elim hX fun q => (hn _ q _ e1).2.1 rfl) (fun q => q.elim hX' fun q => (hn _ q _ ed).2.2 _ _ rfl)) .opq .nil fun _ _ a b => .cons a b
theorem Rep.apart {e : Addr} {oe : Obj} (he : h.get? e = some oe) (hn : NoDatum oe) {v : Value} {p : PV} (r : Rep W h X v p) : Rep W h (fun a => X a \/ a = e) v p :=
  r.apartY fun a q o e1 => by rw [q, he] at e1; exact Option.some.inj e1 ▸ hn
theorem Rep.turn {h' : Heap} {e : Addr} {oe : Obj} (he : h.get? e = some oe) (hn : NoDatum oe) {v : Value} {p : PV} (r : Rep W h X v p) (k : KeepsBut (fun a => a = e) h h') : Rep W h' X v p :=
  ((r.apart he hn).keeps k fun a q => .inr q).widen fun a _ q => .inl q
end
section
variable {M : Model} {A : Around} {E : Value -> Shared -> Prop} {s : Shared} {W : Wd} {X : Addr -> Prop} {old : Nat} {e : Value} {pa : PV} {env e0 : Env} {rest : List Env} {L : Addr}
theorem Base.turn {h h' : Heap} (B : Base W h) {a : Addr} {oa : Obj} (ea : h.get? a = some oa) (ha : W.hB.objs.size <= a) (hc : oa.cls ≠ .none) (hcc : oa.cls ≠ .type "code") (k : Heap.ExtBut a h h') (hs : h.objs.size <= h'.objs.size) : Base W h' where
  old := fun b o e f => k b o (Nat.ne_of_lt (Nat.lt_of_lt_of_le (Heap.lt_size e) ha)) (B.old b o e f)
  tab := fun x hx => by
    obtain ⟨ps, e, t, r⟩ := B.tab x hx
    refine ⟨ps, k _ _ (fun q => by rw [q, ea] at e; cases e; exact hc rfl) e, t, fun pos cv hcv => ?_⟩
    obtain ⟨⟨c, o, vs, tk, e1, e2, e3, e4⟩, c', o', b, d, f⟩ := r pos cv hcv
    obtain rfl : c' = c := by cases b.symm.trans e1; rfl
    obtain rfl : o' = o := Option.some.inj (d.symm.trans e2)
    have ne : c' ≠ a := fun q => by rw [q, ea] at e2; cases e2; exact hcc f
    exact ⟨⟨c', o', vs, tk, e1, k _ _ ne e2, e3, e4⟩, c', o', b, k _ _ ne d, f⟩
  size := Nat.le_trans B.size hs
theorem Step.one {h' : Heap} {tk : Nat} {a : Addr} {oa : Obj} (B : Base W s.heap) (ea : s.heap.get? a = some oa) (ha : W.hB.objs.size <= a) (hc : oa.cls ≠ .none) (hcc : oa.cls ≠ .type "code") (hcf : oa.cls ≠ .type "frame") (k : Heap.SameBut a s.heap h') :
    Step W (fun b => b = a) s { s with heap := h', toks := tk } :=
  ⟨KeepsBut.of_extBut k.extBut rfl, B.turn ea ha hc hcc k.extBut (Nat.le_of_eq k.1.symm), Nat.le_of_eq k.1.symm, rfl, rfl,
    fun b o es n e c d => ⟨o, es, n, k.extBut b o (fun q => by rw [q, ea] at e; cases e; exact hcf c) e, c, d⟩⟩
theorem exc_flight (hx : Exc W s.heap X old (fun o => o ≠ none) e pa) (B : Base W s.heap) (hB : W.hB.objs.size <= old) (f : Option Addr) :
    wpAny M A (setFlight e f) (fun _ s' => Exc W s'.heap X old (fun o => o = some (f.elim .none fun a => rawInt a)) e pa /\ Step W (fun a => old <= a) s s') E s := by
  obtain ⟨ea, dx, vs, what, t1, t2, tw, hs1, hs2, n, va, sl, sld, rfl, q2, q3, q4, q5, q6, q7, q8⟩ := hx
  rcases q8 with ⟨_, b⟩ | ⟨T, oT, ts, g, r1, r2, r3, r4, r5, r6, r7, _⟩
  · exact (b rfl).elim
  unfold setFlight
  refine wpAny_bind (wpAny_field q4 rfl r1 ?_)
  rw [if_pos (show (Value.ref T != Value.none) = true from by simp)]
  have hsz3 : 3 < ts.size := (Array.getElem?_eq_some_iff.mp r7).1
  refine wpAny_setField r4 r6 hsz3 ?_
  have hdT := Obj.data_mapFields r6 (·.setIfInBounds 3 (f.elim Value.none fun a => rawInt a))
  have gT := Heap.get?_update_self (Obj.mapFields (·.setIfInBounds 3 (f.elim Value.none fun a => rawInt a))) r4 (Obj.isFreed_of_fields hdT)
  have st : Step W (fun b => b = T) s { s with heap := s.heap.update T (Obj.mapFields (·.setIfInBounds 3 (f.elim Value.none fun a => rawInt a))) } :=
    Step.one B r4 (Nat.le_trans hB r3) (by rw [r5]; exact nofun) (by rw [r5]; decide) (by rw [r5]; decide) (Heap.SameBut.update ..)
  have other : ∀ b, b ≠ T -> (s.heap.update T (Obj.mapFields (·.setIfInBounds 3 (f.elim Value.none fun a => rawInt a)))).get? b = s.heap.get? b := fun b hb => Heap.get?_update_other _ _ (Ne.symm hb)
  refine ⟨⟨ea, dx, vs, what, t1, t2, tw, hs1, hs2, n, va, sl, sld, rfl, q2, q3, (other _ (Ne.symm r2)).trans q4, q5, (other _ fun q => by rw [q, r4] at q6; cases q6; cases r6).trans q6, q7.turn r4 (NoDatum.fields r6) st.keeps, .inr ⟨T, _, _, _, r1, r2, r3, gT, (Obj.cls_mapFields _ _).trans r5, hdT, by simp [hsz3], rfl⟩⟩, st.mono fun a _ q => by subst q; exact r3⟩
theorem exc_note (hfr : A.frames = some (e0 :: rest)) (St : Stk W (e0 :: rest) s.heap) (hf0 : e0.frame = some L) (hf : env.frame = some L) (B : Base W s.heap)
    (hx : Exc W s.heap X old (Fl1 L) e pa) (hB : W.hB.objs.size <= old) (ho : old <= s.heap.objs.size) :
    wpAny M A (noteFrame e env) (fun _ s' => Exc W s'.heap X old (FlAt L) e pa /\ Step W (fun a => old <= a) s s') E s := by
  obtain ⟨ea, dx, vs, what, t1, t2, tw, hs1, hs2, n, va, sl, sld, rfl, q2, q3, q4, q5, q6, q7, q8⟩ := hx
  have dne : dx ≠ ea := fun q => by rw [q, q4] at q6; cases q6
  have key : ∀ (s' : Shared) (head : Value) (hadNext : Bool) (vs' : Array Value) (Q' : Unit -> Shared -> Prop), Step W (fun a => old <= a) s s' -> s'.heap.get? ea = some { cls := .ref W.ec, dict := some dx, data := .fields vs', slots := sl } -> (vs'.size = 6 /\ (pa = .none -> vs'[2]? = some .none)) ->
      s'.heap.get? dx = some { cls := .type "dict", data := .dict #[⟨hs1, .str "what" t1, .str what tw⟩, ⟨hs2, .str "at" t2, va⟩] n, slots := sld } -> Rep W s'.heap X va pa ->
      (∀ s'', Exc W s''.heap X old (FlAt L) (.ref ea) pa -> Step W (fun a => old <= a) s s'' -> Q' () s'') ->
      wpAny M A (do let a <- PySem.frameOf env; let pl <- entryPlaceOf L hadNext; let b <- EntryCells.newEntry head a .none (rawInt L) .none pl; setField (.ref ea) 1 b) Q' E s' := by
    intro s' head hadNext vs' Q' st g4 g5' g6 g7 hQ
    have g5 := g5'.1
    refine entry_any hfr (St.step st.fr) hf0 hf st.base g4 rfl (Nat.le_trans hB q2) rfl (by omega) nofun fun h' T ts st' g1 g2 g3 g8 => ?_
    refine hQ _ ⟨ea, dx, _, what, t1, t2, tw, hs1, hs2, n, va, sl, sld, rfl, q2, q3, g1, ⟨by simp [g5], fun q => by simpa using g5'.2 q⟩, st'.keeps.get g6 dne nofun dict_ne_frame, g7.turn g4 (NoDatum.fields rfl) st'.keeps, .inr ⟨T, _, ts, _, ?_, ?_, ?_, g3, rfl, rfl, g8, rfl⟩⟩ (st.trans (st'.mono fun a _ q => by subst q; exact q2))
    · simp [g5]
    · exact fun q => by have := Heap.lt_size g4; rw [<- q] at this; exact Nat.lt_irrefl _ (Nat.lt_of_lt_of_le this g2)
    · exact Nat.le_trans (Nat.le_trans ho st.size) g2
  unfold noteFrame
  simp only [hf]
  rcases q8 with ⟨a, b⟩ | ⟨T, oT, ts, g, r1, r2, r3, r4, r5, r6, r7, r8⟩
  · refine wpAny_bind (wpAny_field q4 rfl a ?_)
    rw [if_neg (by decide)]
    exact key s _ _ vs _ (Step.refl B) q4 q5 q6 q7 fun s'' x y => ⟨x, y⟩
  · refine wpAny_bind (wpAny_field q4 rfl r1 ?_)
    rw [if_pos (show (Value.ref T != Value.none) = true from by simp)]
    refine wpAny_bind (wpAny_field r4 r6 r7 ?_)
    have hg : g = .none \/ g = rawInt L := by
      rcases r8 with q | q | q
      · cases q
      · exact .inl (Option.some.inj q)
      · exact .inr (Option.some.inj q)
    rcases hg with rfl | rfl
    · rw [if_neg (show ¬ ((Value.none == rawInt L) = true) from by simp [rawInt])]
      have hsz3 : 3 < ts.size := (Array.getElem?_eq_some_iff.mp r7).1
      refine wpAny_bind (wpAny_setField r4 r6 hsz3 ?_)
      have st : Step W (fun b => b = T) s { s with heap := s.heap.update T (Obj.mapFields (·.setIfInBounds 3 .none)) } :=
        Step.one B r4 (Nat.le_trans hB r3) (by rw [r5]; exact nofun) (by rw [r5]; decide) (by rw [r5]; decide) (Heap.SameBut.update ..)
      have other : ∀ b, b ≠ T -> (s.heap.update T (Obj.mapFields (·.setIfInBounds 3 .none))).get? b = s.heap.get? b := fun b hb => Heap.get?_update_other _ _ (Ne.symm hb)
      exact key _ _ _ vs _ (st.mono fun a _ q => by subst q; exact r3) ((other _ (Ne.symm r2)).trans q4) q5 ((other _ fun q => by rw [q, r4] at q6; cases q6; cases r6).trans q6) (q7.turn r4 (NoDatum.fields r6) st.keeps) fun s'' x y => ⟨x, y⟩
    · rw [if_pos (show (rawInt L == rawInt L) = true from by simp)]
      exact wpAny_pure ⟨⟨ea, dx, vs, what, t1, t2, tw, hs1, hs2, n, va, sl, sld, rfl, q2, q3, q4, q5, q6, q7, .inr ⟨T, oT, ts, _, r1, r2, r3, r4, r5, r6, r7, rfl⟩⟩, Step.refl B⟩
theorem exc_leaving (hfr : A.frames = some (e0 :: rest)) (St : Stk W (e0 :: rest) s.heap) (hf0 : e0.frame = some L) (hf : env.frame = some L) (B : Base W s.heap)
    (hx : Exc W s.heap X old (Fl1 L) e pa) (hB : W.hB.objs.size <= old) (ho : old <= s.heap.objs.size) :
    wpAny M A (leaving env e) (fun _ s' => Exc W s'.heap X old FlNo e pa /\ Step W (fun a => old <= a) s s') E s := by
  unfold leaving
  refine wpAny_bind (wpAny_mono (exc_note (E := E) hfr St hf0 hf B hx hB ho) (fun _ s' h' => ?_) fun _ _ q => q)
  refine wpAny_mono (exc_flight (E := E) (h'.1.flow fun o q => by rw [q]; exact nofun) h'.2.base hB none) (fun _ s'' h'' => ⟨h''.1, h'.2.trans h''.2⟩) fun _ _ q => q
end
noncomputable def tag (e : Expr) : Nat := match e with
  | .Starred .. => 1
  | .Set .. => 2
  | .ListComp .. => 3
  | .SetComp .. => 4
  | .DictComp .. => 5
  | .Tuple .. => 6
  | .List .. => 7
  | .Slice .. => 8
  | _ => 0
noncomputable def vName (e : Expr) : Option Str := match e with
  | .Name x _ => some x
  | _ => none
noncomputable def orT {α : Type} (o : Option α) (p : α -> Prop) : Prop := match o with
  | some a => p a
  | none => True
theorem orT_s {α : Type} {o : Option α} {p : α -> Prop} (h : orT o p) {a : α} (e : o = some a) : p a := by rw [e] at h; exact h
theorem vName_is (e : Expr) : orT (vName e) fun x => ∃ p, e = .Name x p := by
  induction e using PySem.Expr.casesOn with
  | Name y p => exact ⟨p, rfl⟩
  | _ => exact trivial
theorem vName_eq {e : Expr} {x : Str} (h : vName e = some x) : ∃ p, e = .Name x p := orT_s (vName_is e) h
noncomputable def vCall (e : Expr) : Option (Expr × List Expr × List Keyword × Pos) := match e with
  | .Call fn args kws p => some (fn, args, kws, p)
  | _ => none
theorem vCall_is (e : Expr) : orT (vCall e) fun q => e = .Call q.1 q.2.1 q.2.2.1 q.2.2.2 := by
  induction e using PySem.Expr.casesOn with
  | Call fn args kws p => exact rfl
  | _ => exact trivial
theorem vCall_eq {e : Expr} {q : Expr × List Expr × List Keyword × Pos} (h : vCall e = some q) : e = .Call q.1 q.2.1 q.2.2.1 q.2.2.2 := orT_s (vCall_is e) h
noncomputable def vTup (e : Expr) : Option (List Expr) := match e with
  | .Tuple ts _ _ => some ts
  | _ => none
theorem vTup_is (e : Expr) : orT (vTup e) fun ts => ∃ k p, e = .Tuple ts k p := by
  induction e using PySem.Expr.casesOn with
  | Tuple ts k p => exact ⟨k, p, rfl⟩
  | _ => exact trivial
theorem vTup_eq {e : Expr} {ts : List Expr} (h : vTup e = some ts) : ∃ k p, e = .Tuple ts k p := orT_s (vTup_is e) h
noncomputable def vAtt (e : Expr) : Option (Expr × Str × Pos) := match e with
  | .Attribute o name p => some (o, name, p)
  | _ => none
theorem vAtt_is (e : Expr) : orT (vAtt e) fun q => e = .Attribute q.1 q.2.1 q.2.2 := by
  induction e using PySem.Expr.casesOn with
  | Attribute o name p => exact rfl
  | _ => exact trivial
theorem vAtt_eq {e : Expr} {q : Expr × Str × Pos} (h : vAtt e = some q) : e = .Attribute q.1 q.2.1 q.2.2 := orT_s (vAtt_is e) h
noncomputable def vLam (e : Expr) : Option (Arguments × Expr × Scope) := match e with
  | .Lambda a b sc _ => some (a, b, sc)
  | _ => none
theorem vLam_is (e : Expr) : orT (vLam e) fun q => ∃ p, e = .Lambda q.1 q.2.1 q.2.2 p := by
  induction e using PySem.Expr.casesOn with
  | Lambda a b sc p => exact ⟨p, rfl⟩
  | _ => exact trivial
theorem vLam_eq {e : Expr} {q : Arguments × Expr × Scope} (h : vLam e = some q) : ∃ p, e = .Lambda q.1 q.2.1 q.2.2 p := orT_s (vLam_is e) h
noncomputable def isE {α : Type} (l : List α) : Bool := match l with
  | [] => true
  | _ :: _ => false
theorem isE_eq {α : Type} {l : List α} (h : isE l = true) : l = [] := by
  cases l with
  | nil => rfl
  | cons _ _ => cases h
noncomputable def bareA (a : Arguments) : Bool := isE a.posonlyargs && isE a.args && a.vararg.isNone && isE a.kwonlyargs && isE a.kw_defaults && a.kwarg.isNone && isE a.defaults
theorem bareA_eq {a : Arguments} (h : bareA a = true) : a = ⟨[], [], none, [], [], none, []⟩ := by
  unfold bareA at h
  simp only [Bool.and_eq_true, Option.isNone_iff_eq_none] at h
  obtain ⟨⟨⟨⟨⟨⟨h1, h2⟩, h3⟩, h4⟩, h5⟩, h6⟩, h7⟩ := h
  obtain ⟨a1, a2, a3, a4, a5, a6, a7⟩ := a
  have e1 : a1 = [] := isE_eq h1
  have e2 : a2 = [] := isE_eq h2
  have e3 : a3 = none := h3
  have e4 : a4 = [] := isE_eq h4
  have e5 : a5 = [] := isE_eq h5
  have e6 : a6 = none := h6
  have e7 : a7 = [] := isE_eq h7
  rw [e1, e2, e3, e4, e5, e6, e7]
inductive Out (α : Type) where
  | ok (a : α)
  | err (p : PV)
  | stuck
noncomputable def Out.bind {α β : Type} (x : Out α) (f : α -> Out β) : Out β := match x with
  | .ok a => f a
  | .err p => .err p
  | .stuck => .stuck
noncomputable def only {α β : Type} (l : List α) (f : α -> Out β) : Out β := match l with
  | [] => .stuck
  | a :: r => (match r with
    | [] => f a
    | _ :: _ => .stuck)
theorem only_is {α β : Type} {l : List α} {f : α -> Out β} (h : only l f ≠ .stuck) : ∃ a, l = [a] := by
  induction l using List.casesOn with
  | nil => exact (h rfl).elim
  | cons a r => induction r using List.casesOn with
    | nil => exact ⟨a, rfl⟩
    | cons _ _ => exact (h rfl).elim
noncomputable def onSome {α β : Type} (o : Option α) (f : α -> Out β) : Out β := match o with
  | some a => f a
  | none => .stuck
theorem onSome_is {α β : Type} {o : Option α} {f : α -> Out β} (h : onSome o f ≠ .stuck) : ∃ a, o = some a := by
  induction o using Option.casesOn with
  | none => exact (h rfl).elim
  | some a => exact ⟨a, rfl⟩
noncomputable def onNil {α β : Type} (l : List α) (x : Out β) : Out β := match l with
  | [] => x
  | _ :: _ => .stuck
theorem onNil_is {α β : Type} {l : List α} {x : Out β} (h : onNil l x ≠ .stuck) : l = [] := by
  induction l using List.casesOn with
  | nil => rfl
  | cons _ _ => exact (h rfl).elim
noncomputable def onTrue {β : Type} (b : Bool) (x : Out β) : Out β := match b with
  | true => x
  | false => .stuck
theorem onTrue_is {β : Type} {b : Bool} {x : Out β} (h : onTrue b x ≠ .stuck) : b = true := by
  cases b
  · exact (h rfl).elim
  · rfl
noncomputable def onInt {β : Type} (v : PV) (f : Int -> Out β) : Out β := match v with
  | .int i => f i
  | _ => .stuck
theorem onInt_is {β : Type} {v : PV} {f : Int -> Out β} (h : onInt v f ≠ .stuck) : ∃ i, v = .int i := by
  induction v using PV.casesOn with
  | int i => exact ⟨i, rfl⟩
  | _ => exact (h rfl).elim
noncomputable def onStr {β : Type} (v : PV) (f : Str -> Out β) : Out β := match v with
  | .str i => f i
  | _ => .stuck
theorem onStr_is {β : Type} {v : PV} {f : Str -> Out β} (h : onStr v f ≠ .stuck) : ∃ i, v = .str i := by
  induction v using PV.casesOn with
  | str i => exact ⟨i, rfl⟩
  | _ => exact (h rfl).elim
noncomputable def onList {β : Type} (v : PV) (f : List PV -> Out β) : Out β := match v with
  | .list i => f i
  | _ => .stuck
theorem onList_is {β : Type} {v : PV} {f : List PV -> Out β} (h : onList v f ≠ .stuck) : ∃ i, v = .list i := by
  induction v using PV.casesOn with
  | list i => exact ⟨i, rfl⟩
  | _ => exact (h rfl).elim
noncomputable def onBool {β : Type} (v : PV) (f : Bool -> Out β) : Out β := match v with
  | .bool i => f i
  | _ => .stuck
theorem onBool_is {β : Type} {v : PV} {f : Bool -> Out β} (h : onBool v f ≠ .stuck) : ∃ i, v = .bool i := by
  induction v using PV.casesOn with
  | bool i => exact ⟨i, rfl⟩
  | _ => exact (h rfl).elim
noncomputable def onBytes {β : Type} (v : PV) (f : List UInt8 -> Out β) : Out β := match v with
  | .bytes i => f i
  | _ => .stuck
theorem onBytes_is {β : Type} {v : PV} {f : List UInt8 -> Out β} (h : onBytes v f ≠ .stuck) : ∃ i, v = .bytes i := by
  induction v using PV.casesOn with
  | bytes i => exact ⟨i, rfl⟩
  | _ => exact (h rfl).elim
noncomputable def onOrd {β : Type} (v : PV) (f : Int -> Int -> Int -> Int -> Int -> Int -> Out β) : Out β := match v with
  | .ord c d s o i m => f c d s o i m
  | _ => .stuck
theorem onOrd_is {β : Type} {v : PV} {f : Int -> Int -> Int -> Int -> Int -> Int -> Out β} (h : onOrd v f ≠ .stuck) : ∃ c d s o i m, v = .ord c d s o i m := by
  induction v using PV.casesOn with
  | ord c d s o i m => exact ⟨c, d, s, o, i, m, rfl⟩
  | _ => exact (h rfl).elim
noncomputable def onTuple {β : Type} (v : PV) (f : List PV -> Out β) : Out β := match v with
  | .tuple i => f i
  | _ => .stuck
theorem onTuple_is {β : Type} {v : PV} {f : List PV -> Out β} (h : onTuple v f ≠ .stuck) : ∃ i, v = .tuple i := by
  induction v using PV.casesOn with
  | tuple i => exact ⟨i, rfl⟩
  | _ => exact (h rfl).elim
noncomputable def onCons {α β : Type} (l : List α) (f : α -> List α -> Out β) : Out β := match l with
  | [] => .stuck
  | v :: r => f v r
theorem onCons_is {α β : Type} {l : List α} {f : α -> List α -> Out β} (h : onCons l f ≠ .stuck) : ∃ v r, l = v :: r := by
  induction l using List.casesOn with
  | nil => exact (h rfl).elim
  | cons v r => exact ⟨v, r, rfl⟩
noncomputable def popInt {β : Type} (l : List PV) (f : Int -> List PV -> Out β) : Out β := match l with
  | [] => .stuck
  | v :: r => onInt v fun i => f i r
theorem popInt_is {β : Type} {l : List PV} {f : Int -> List PV -> Out β} (h : popInt l f ≠ .stuck) : ∃ i r, l = .int i :: r := by
  induction l using List.casesOn with
  | nil => exact (h rfl).elim
  | cons v r =>
    obtain ⟨i, rfl⟩ := onInt_is (v := v) h
    exact ⟨i, r, rfl⟩
noncomputable def ordP (ps : List PV) : Out PV := popInt ps fun c r => popInt r fun d r => popInt r fun s r => popInt r fun o r => popInt r fun i r => (match r with
  | [] => .ok (.ord c d s o i 0)
  | v :: r => onInt v fun m => onNil r (.ok (.ord c d s o i m)))
noncomputable def heardOut (r : Out PV) : Out PV := match r with
  | .ok v => .ok (.list [v])
  | .err a => .ok (.tuple [.str "refused", a])
  | .stuck => .stuck
noncomputable abbrev Vars := List (Str × PV)
inductive Res where
  | next (σ : Vars)
  | ret (v : PV)
structure Gl where
  D : Str -> Option (List PV -> Out PV)
  gc : Str -> Option PV
structure I where
  e : Scope -> Vars -> Expr -> Out PV
  t : Scope -> Vars -> Expr -> Out Bool
  b : Scope -> Vars -> List Stmt -> Out Res
noncomputable def intsP (a b : PV) (f : Int -> Int -> Out PV) : Out PV := onInt a fun x => onInt b fun y => f x y
noncomputable def addP (a b : PV) : Out PV := match a with
  | .int x => onInt b fun y => .ok (.int (x + y))
  | .list x => onList b fun y => if x.length + y.length <= 100000 then .ok (.list (x ++ y)) else .stuck
  | .bytes x => onBytes b fun y => if x.length + y.length <= 100000 then .ok (.bytes (x ++ y)) else .stuck
  | .str x => onStr b fun y => if x.length + y.length <= 1000 then .ok (.str (x ++ y)) else .stuck
  | _ => .stuck
noncomputable def binop (op : Operator) (a b : PV) : Out PV := match op with
  | .Add => addP a b
  | .Sub => intsP a b fun x y => .ok (.int (x - y))
  | .Mult => intsP a b fun x y => if y.natAbs < 2 ^ 64 \/ x.natAbs < 2 ^ 64 then .ok (.int (x * y)) else .stuck
  | .Mod => intsP a b fun x y => if y = 0 then .stuck else .ok (.int (Int.fmod x y))
  | .FloorDiv => intsP a b fun x y => if y = 0 \/ 8000 <= y.natAbs.log2 then .stuck else .ok (.int (Int.fdiv x y))
  | .LShift => intsP a b fun x y => if 0 <= y /\ y <= 1000 /\ x.natAbs < 2 ^ 64 then .ok (.int (x * 2 ^ y.toNat)) else .stuck
  | .RShift => intsP a b fun x y => if 0 <= y then .ok (.int (Int.fdiv x (2 ^ y.toNat))) else .stuck
  | .BitAnd => intsP a b fun x y => .ok (.int (Builtin.bitAnd x y))
  | .Pow => intsP a b fun x y => if 0 <= y /\ y <= 1000 /\ x.natAbs < 2 ^ 64 then .ok (.int (x ^ y.toNat)) else .stuck
  | _ => .stuck
noncomputable def truthyP (v : PV) : Out Bool := match v with
  | .bool b => .ok b
  | .int i => .ok (i != 0)
  | .none => .ok false
  | _ => .stuck
noncomputable def unop (op : UnaryOp) (a : PV) : Out PV := match op with
  | .USub => onInt a fun x => .ok (.int (-x))
  | .Invert => onInt a fun x => .ok (.int (Builtin.bitNot x))
  | .Not => (truthyP a).bind fun b => .ok (.bool (!b))
  | _ => .stuck
mutual
noncomputable def toPy : PV -> Option PyData
  | .none => some .none
  | .bool b => some (.bool b)
  | .int i => some (.int i)
  | .str x => some (.str x)
  | .list xs => (toPys xs).map .list
  | .tuple xs => (toPys xs).map .tuple
  | .bytes _ => none
  | .ord .. => none
  | .opq _ => none
noncomputable def toPys : List PV -> Option (List PyData)
  | [] => some []
  | x :: r => match toPy x, toPys r with
    | some d, some ds => some (d :: ds)
    | _, _ => none
end
noncomputable def eqP (a b : PV) : Option Bool := match toPy a, toPy b with
  | some x, some y => if SeqAt.shaped x = true /\ SeqAt.shaped y = true then some (PyData.eqv x y) else none
  | _, _ => none
noncomputable def allInts : List PV -> Option (List Int)
  | [] => some []
  | .int i :: r => (allInts r).map (i :: ·)
  | _ => none
noncomputable def outOpt {α : Type} : Option α -> Out α
  | some a => .ok a
  | none => .stuck
noncomputable def eqOp (a b : PV) : Out PV := match a with
  | .int x => onInt b fun y => .ok (.bool (x == y))
  | .str x => onStr b fun y => .ok (.bool (x == y))
  | .bytes x => onBytes b fun y => .ok (.bool (x == y))
  | .tuple xs => (outOpt (eqP (.tuple xs) b)).bind fun b => .ok (.bool b)
  | _ => .stuck
noncomputable def neOp (a b : PV) : Out PV := match a with
  | .int x => onInt b fun y => .ok (.bool (x != y))
  | .str x => onStr b fun y => .ok (.bool (x != y))
  | .tuple xs => (outOpt (eqP (.tuple xs) b)).bind fun b => .ok (.bool (!b))
  | .list xs => (outOpt (eqP (.list xs) b)).bind fun b => .ok (.bool (!b))
  | _ => .stuck
noncomputable def isOp (a b : PV) (t : Bool) : Out PV := match b with
  | .none => (match a with
    | .none => .ok (.bool t)
    | .tuple _ => .ok (.bool (!t))
    | _ => .stuck)
  | _ => .stuck
noncomputable def inOp (a b : PV) : Out PV := onInt a fun x => onTuple b fun ys => (outOpt (allInts ys)).bind fun l => .ok (.bool (l.any fun y => y == x))
noncomputable def cmpop (op : CmpOp) (a b : PV) : Out PV := match op with
  | .Eq => eqOp a b
  | .NotEq => neOp a b
  | .Lt => intsP a b fun x y => .ok (.bool (decide (x < y)))
  | .LtE => intsP a b fun x y => .ok (.bool (decide (x <= y)))
  | .Gt => intsP a b fun x y => .ok (.bool (decide (y < x)))
  | .GtE => intsP a b fun x y => .ok (.bool (decide (y <= x)))
  | .Is => isOp a b true
  | .IsNot => isOp a b false
  | .In => inOp a b
  | _ => .stuck
noncomputable def attrP (v : PV) (name : Str) : Out PV := match v with
  | .ord c d s o i m => if name == "code" then .ok (.int c) else if name == "dst" then .ok (.int d) else if name == "src" then .ok (.int s)
      else if name == "off" then .ok (.int o) else if name == "imm" then .ok (.int i) else if name == "more" then .ok (.int m) else .stuck
  | _ => .stuck
noncomputable def noneOrTup (x : PV) : Bool := match x with
  | .none => true
  | .tuple _ => true
  | _ => false
noncomputable def idxNone : List PV -> Option Nat
  | [] => none
  | .none :: _ => some 0
  | .tuple _ :: r => (idxNone r).map (· + 1)
  | _ => none
noncomputable def toldP (ps : List PV) : Out PV := only ps fun v => onOrd v fun c d s o i m => .ok (.tuple [.int c, .int d, .int s, .int o, .int i, .int m])
noncomputable def meth0 (v : PV) (name : Str) : Out PV := match v with
  | .str x => if name == "strip" /\ x.length <= 1000 then .ok (.str (Txt.strip x)) else .stuck
  | .ord c d s o i m => if name == "told" then toldP [.ord c d s o i m] else .stuck
  | _ => .stuck
noncomputable def isNoneP (v : PV) : Bool := match v with
  | .none => true
  | _ => false
noncomputable def meth1 (v : PV) (name : Str) (u : PV) : Out PV := onList v fun xs => onTrue (isNoneP u) (if name == "index" /\ xs.length <= 1000 /\ xs.all noneOrTup = true then (outOpt (idxNone xs)).bind fun k => .ok (.int k) else .stuck)
noncomputable def methP (v : PV) (name : Str) (args : List PV) : Out PV := match args with
  | [] => meth0 v name
  | u :: r => onNil r (meth1 v name u)
noncomputable def itemK (v : PV) (k : Int) : Out PV := match v with
  | .list xs => if 0 <= k /\ k < 100000 then outOpt xs[k.toNat]? else .stuck
  | .tuple xs => if 0 <= k /\ k < 100000 then outOpt xs[k.toNat]? else .stuck
  | .bytes xs => if 0 <= k /\ k < xs.length /\ xs.length <= 100000 then .ok (.int ((xs.getD k.toNat 0).toNat)) else .stuck
  | _ => .stuck
noncomputable def itemP (v i : PV) : Out PV := onInt i fun k => itemK v k
noncomputable def partP (v : PV) : Out (Option Int) := match v with
  | .none => .ok none
  | .int k => if 0 <= k then .ok (some k) else .stuck
  | _ => .stuck
noncomputable def cutP {α : Type} (xs : List α) (lo hi : Option Int) : List α := (xs.drop (kms_lo lo xs.length)).take (kms_hi hi xs.length - kms_lo lo xs.length)
noncomputable def strCut (x : Str) (lo hi : Option Int) : Str :=
  if (Builtin.Str.strSliceIndices lo hi 1 x.length).length == x.length then x else ⟨((Builtin.Str.strSliceIndices lo hi 1 x.length).filterMap (x.cps[·]?)).toArray⟩
noncomputable def sliceK (v : PV) (l h : Option Int) : Out PV := match v with
  | .list xs => if xs.length <= 100000 then .ok (.list (cutP xs l h)) else .stuck
  | .bytes xs => if xs.length <= 100000 then .ok (.bytes (cutP xs l h)) else .stuck
  | .str x => if (strCut x l h).length <= 1000 then .ok (.str (strCut x l h)) else .stuck
  | _ => .stuck
noncomputable def sliceP (v lo hi : PV) : Out PV := (partP lo).bind fun l => (partP hi).bind fun h => sliceK v l h
section
variable (G : Gl) (J : I)
noncomputable def varP (sc : Scope) (σ : Vars) (x : Str) : Out PV := match σ.lookup x with
  | some v => .ok v
  | none => if sc.names.lookup x = some .globalImplicit then outOpt (G.gc x) else .stuck
noncomputable def isStar (e : Expr) : Bool := Nat.beq (tag e) 1
noncomputable def evList (sc : Scope) (σ : Vars) : List Expr -> Out (List PV)
  | [] => .ok []
  | e :: r => if isStar e then .stuck else (J.e sc σ e).bind fun v => (evList sc σ r).bind fun vs => .ok (v :: vs)
noncomputable def boK {α : Type} (op : BoolOp) (t : Bool) (x y : α) : α := match op with
  | .And => (match t with
    | false => x
    | true => y)
  | .Or => (match t with
    | false => y
    | true => x)
noncomputable def evBool (sc : Scope) (σ : Vars) (op : BoolOp) : List Expr -> Out PV
  | [] => .stuck
  | [e] => J.e sc σ e
  | e :: r => (J.e sc σ e).bind fun v => (truthyP v).bind fun t => boK op t (.ok v) (evBool sc σ op r)
noncomputable def tsBool (sc : Scope) (σ : Vars) (op : BoolOp) : List Expr -> Out Bool
  | [] => .ok (op == .And)
  | e :: r => (J.t sc σ e).bind fun t => boK op t (.ok (op == .Or)) (tsBool sc σ op r)
noncomputable def evOpt (sc : Scope) (σ : Vars) : Option Expr -> Out PV
  | none => .ok .none
  | some e => J.e sc σ e
noncomputable def constP (c : Const) : Out PV := match c with
  | .none => .ok .none
  | .bool b => .ok (.bool b)
  | .int i => .ok (.int i)
  | .str s => .ok (.str s)
  | _ => .stuck
noncomputable def freeVars (sc : Scope) (σ : Vars) : Vars := σ.filter fun p => sc.names.lookup p.1 == some .free
noncomputable def topName (sc : Scope) (σ : Vars) (f : Str) : Bool := (σ.lookup f).isNone && sc.names.lookup f == some .globalImplicit && !(f == "__debug__")
noncomputable def rangeP (v : PV) : Out (List PV) := match v with
  | .int n => if 0 <= n /\ n <= 1000 then .ok ((List.range n.toNat).map fun (k : Nat) => .int k) else .stuck
  | _ => .stuck
noncomputable def listP (v : PV) : Out (List PV) := match v with
  | .list xs => if xs.length <= 1000 then .ok xs else .stuck
  | _ => .stuck
noncomputable def rangeCallP (sc : Scope) (σ : Vars) (fn : Expr) (args : List Expr) (kws : List Keyword) : Out (List PV) := onSome (vName fn) fun f => onNil kws (only args fun a =>
  if f == "range" /\ topName sc σ f /\ isStar a = false then (J.e sc σ a).bind rangeP else .stuck)
noncomputable def iterP (sc : Scope) (σ : Vars) (e : Expr) : Out (List PV) := match vCall e with
  | some q => rangeCallP J sc σ q.1 q.2.1 q.2.2.1
  | none => (J.e sc σ e).bind listP
noncomputable def noErr {α : Type} (x : Out α) : Out α := match x with
  | .err _ => .stuck
  | r => r
noncomputable def mapOut (f : PV -> Out (Option PV)) : List PV -> Out (List PV)
  | [] => .ok []
  | v :: r => (noErr (f v)).bind fun x => (mapOut f r).bind fun xs => .ok (match x with | some y => y :: xs | none => xs)
noncomputable def compEl (sc' : Scope) (σ' : Vars) (x : Str) (ifs : List Expr) (elt : Expr) (v : PV) : Out (Option PV) := match ifs with
  | [] => (J.e sc' ((x, v) :: σ') elt).bind fun y => .ok (some y)
  | [c] => (J.t sc' ((x, v) :: σ') c).bind fun t => if t then (J.e sc' ((x, v) :: σ') elt).bind fun y => .ok (some y) else .ok none
  | _ => .stuck
noncomputable def cmpP (sc : Scope) (σ : Vars) (l : Expr) (ops : List CmpOp) (rs : List Expr) : Out PV := match ops with
  | [] => .stuck
  | op :: ops => (match rs with
    | [] => .stuck
    | r :: rs => (match ops with
      | [] => onNil rs (if behindInMarks op r then .stuck else (J.e sc σ l).bind fun a => (J.e sc σ r).bind fun b => cmpop op a b)
      | op2 :: ops => onNil ops (only rs fun r2 => if behindInMarks op2 r2 then .stuck else (J.e sc σ l).bind fun a => (J.e sc σ r).bind fun b => (cmpop op a b).bind fun c => (truthyP c).bind fun t =>
        if t then (J.e sc σ r2).bind fun d => cmpop op2 b d else .ok c)))
noncomputable def lamOK (sc : Scope) (σ : Vars) (sc' : Scope) : Bool :=
  sc'.kind == .function && !sc'.isCoroutine && !sc'.isGenerator && sc'.names.lookup ("_law_heard" : Str) == none &&
  sc'.names.all fun p => p.2 != .cell && (p.2 != .free || ((σ.lookup p.1).isSome && sc.names.lookup p.1 != some .local && p.1 != "__classdict__"))
noncomputable def heardP (sc : Scope) (σ : Vars) (args : List Expr) : Out PV := only args fun e => onSome (vLam e) fun q => onTrue (bareA q.1 && lamOK sc σ q.2.2) (heardOut (J.e q.2.2 (freeVars q.2.2 σ) q.2.1))
noncomputable def isNull (o : Expr) : Bool := match vCall o with
  | some q => (vName q.1).isSome && isE q.2.1 && isE q.2.2.1
  | none => false
noncomputable def isIdx (v : PV) (name : Str) : Bool := match v with
  | .list _ => name == "index"
  | _ => false
noncomputable def methCallP (sc : Scope) (σ : Vars) (o : Expr) (name : Str) (args : List Expr) : Out PV := match args with
  | [] => (J.e sc σ o).bind fun v => methP v name []
  | e :: r => onNil r (if isStar e then .stuck else (J.e sc σ o).bind fun v => if isIdx v name then (J.e sc σ e).bind fun u => methP v name [u] else .stuck)
noncomputable def callP (sc : Scope) (σ : Vars) (fn : Expr) (args : List Expr) (kws : List Keyword) (pos : Pos) : Out PV := onNil kws (match vName fn with
  | some f => if topName sc σ f && !args.any isStar then (if f == "_law_heard" then heardP J sc σ args else onSome (G.D f) fun F => (evList J sc σ args).bind F) else .stuck
  | none => onSome (vAtt fn) fun q => if isNull q.1 || !(q.2.2.endLine == pos.line) then .stuck else methCallP J sc σ q.1 q.2.1 args)
noncomputable def subP (sc : Scope) (σ : Vars) (o sl : Expr) : Out PV := match sl with
  | .Slice lo hi st _ => (match st with
    | none => (J.e sc σ o).bind fun v => (evOpt J sc σ lo).bind fun l => (evOpt J sc σ hi).bind fun h => sliceP v l h
    | some _ => .stuck)
  | i => (J.e sc σ o).bind fun v => (J.e sc σ i).bind fun k => itemP v k
noncomputable def compOK (sc : Scope) (σ : Vars) (sc' : Scope) (x : Str) (iter : Expr) : Bool :=
  sc'.kind == .function && sc'.names.lookup x == some .local && sc'.names.lookup ("_law_heard" : Str) == none && !(Nat.beq (tag iter) 2) &&
  sc'.names.all fun p => p.2 != .cell && (p.2 != .local || sc'.names.lookup p.1 == some .local) && (p.2 != .free || ((σ.lookup p.1).isSome && sc.names.lookup p.1 != some .local && p.1 != "__classdict__"))
noncomputable def listCompP (sc : Scope) (σ : Vars) (elt : Expr) (gens : List Comprehension) (sc' : Scope) : Out PV := only gens fun g => onSome (vName g.target) fun x =>
  if g.is_async == 0 && compOK sc σ sc' x g.iter then (iterP J sc σ g.iter).bind fun items => (mapOut (compEl J sc' (freeVars sc' σ) x g.ifs elt) items).bind fun vs => .ok (.list vs) else .stuck
noncomputable def evE (sc : Scope) (σ : Vars) (e : Expr) : Out PV := match e with
  | .Constant c _ _ => constP c
  | .Name x _ => if x == "__debug__" then .stuck else varP G sc σ x
  | .BinOp l op r _ => (J.e sc σ l).bind fun a => (J.e sc σ r).bind fun b => binop op a b
  | .UnaryOp op x _ => (J.e sc σ x).bind fun a => unop op a
  | .BoolOp op vs _ => evBool J sc σ op vs
  | .Compare l ops rs _ => cmpP J sc σ l ops rs
  | .IfExp t b o _ => (J.t sc σ t).bind fun c => if c then J.e sc σ b else J.e sc σ o
  | .List es _ => (evList J sc σ es).bind fun vs => if vs.length <= 1000 then .ok (.list vs) else .stuck
  | .Tuple es _ _ => (evList J sc σ es).bind fun vs => if vs.length <= 1000 then .ok (.tuple vs) else .stuck
  | .Call fn args kws pos => callP G J sc σ fn args kws pos
  | .Attribute o name _ => if isNull o then .stuck else (J.e sc σ o).bind fun v => attrP v name
  | .Subscript o sl _ => subP J sc σ o sl
  | .ListComp elt gens sc' _ => listCompP J sc σ elt gens sc'
  | _ => .stuck
noncomputable def evT (sc : Scope) (σ : Vars) (e : Expr) : Out Bool := match e with
  | .UnaryOp op x p => (match op with
    | .Not => (J.t sc σ x).bind fun b => .ok (!b)
    | _ => (evE G J sc σ (.UnaryOp op x p)).bind truthyP)
  | .BoolOp op vs _ => tsBool J sc σ op vs
  | .IfExp t b o _ => (J.t sc σ t).bind fun c => if c then J.t sc σ b else J.t sc σ o
  | e => (evE G J sc σ e).bind truthyP
noncomputable def isStored (sc : Scope) (x : Str) : Bool := sc.names.lookup x == some .local || sc.names.lookup x == some .cell
noncomputable def namesOf : List Expr -> Option (List Str)
  | [] => some []
  | e :: r => (vName e).bind fun x => (namesOf r).map (x :: ·)
noncomputable def bindTs (sc : Scope) (σ : Vars) (v : PV) (xs : List Str) : Option Vars := match v with
  | .tuple vs => if xs.length = vs.length /\ xs.all (isStored sc) = true then some ((xs.zip vs).reverse ++ σ) else none
  | _ => none
noncomputable def bindT (sc : Scope) (t : Expr) (v : PV) (σ : Vars) : Option Vars := match vName t with
  | some x => if isStored sc x then some ((x, v) :: σ) else none
  | none => (vTup t).bind fun ts => (namesOf ts).bind (bindTs sc σ v)
noncomputable def dd : Vars -> Vars
  | [] => []
  | p :: r => p :: (dd r).filter fun q => !(q.1 == p.1)
noncomputable def loopP (body : Vars -> Out Res) (sc : Scope) (t : Expr) : List PV -> Vars -> Out Res
  | [], σ => .ok (.next σ)
  | v :: r, σ => match bindT sc t v σ with
    | none => .stuck
    | some σ1 => (body σ1).bind fun q => match q with
      | .next σ' => loopP body sc t r (dd σ')
      | .ret v => .ok (.ret v)
noncomputable def isComp (e : Expr) : Bool := Nat.ble 3 (tag e) && Nat.ble (tag e) 5
noncomputable def nodupB : List Str -> Bool
  | [] => true
  | x :: r => !r.contains x && nodupB r
noncomputable def tupOK (sc : Scope) (xs : List Str) (e : Expr) : Bool :=
  !isComp e && nodupB xs && xs.all (isStored sc) && (match vTup e with
    | some vs => !vs.all (constantsAlone 8)
    | none => true)
noncomputable def vLC (e : Expr) : Option (Expr × List Comprehension × Scope) := match e with
  | .ListComp elt gens sc' _ => some (elt, gens, sc')
  | _ => none
noncomputable def asgE (sc : Scope) (σ : Vars) (e : Expr) : Out PV := if isComp e then onSome (vLC e) fun q => listCompP J sc σ q.1 q.2.1 q.2.2 else J.e sc σ e
noncomputable def asgP (sc : Scope) (σ : Vars) (t e : Expr) : Out Res := match vName t with
  | some x => if isStored sc x then (asgE J sc σ e).bind fun v => .ok (.next ((x, v) :: σ)) else .stuck
  | none => onSome (vTup t) fun ts => onSome (namesOf ts) fun xs => if tupOK sc xs e then (J.e sc σ e).bind fun v => (match v with
      | .tuple vs => if xs.length = vs.length then .ok (.next ((xs.zip vs).reverse ++ σ)) else .stuck
      | _ => .stuck) else .stuck
noncomputable def isTupT (t : Expr) : Bool := Nat.beq (tag t) 6 || Nat.beq (tag t) 7
noncomputable def isSetE (t : Expr) : Bool := Nat.beq (tag t) 2
noncomputable def isTup (t : Expr) : Bool := Nat.beq (tag t) 6
noncomputable def zipArgs (e : Expr) : Option (List Expr) := (vCall e).bind fun q => (vName q.1).bind fun f => if isE q.2.2.1 && (f == "zip" && !q.2.1.any isStar) then some q.2.1 else none
noncomputable def zipP (vs : List PV) : Out (List PV) := match vs with
  | [] => .stuck
  | a :: r => onList a fun xs => only r fun b => onList b fun ys => if ys.length = xs.length then .ok (List.zipWith (fun x y => .tuple [x, y]) xs ys) else .stuck
noncomputable def excP (vs : List PV) : Out Res := match vs with
  | [] => .stuck
  | a :: r => onStr a fun _ => (match r with
    | [] => .err .none
    | b :: r => onNil r (.err b))
noncomputable def raiseP (sc : Scope) (σ : Vars) (e c : Option Expr) : Out Res := onSome e fun e => onTrue c.isNone (onSome (vCall e) fun q => onSome (vName q.1) fun f => onNil q.2.2.1
  (if topName sc σ f && !q.2.1.any isStar && f == "CodeError" then (evList J sc σ q.2.1).bind excP else .stuck))
noncomputable def zipForP (sc : Scope) (σ : Vars) (t iter : Expr) (body : List Stmt) : Out Res := onSome (zipArgs iter) fun args => if topName sc σ "zip" && isTup t then (evList J sc σ args).bind fun vs => (zipP vs).bind fun items => loopP (fun σ' => J.b sc σ' body) sc t items σ else .stuck
noncomputable def exS (sc : Scope) (σ : Vars) (s : Stmt) : Out Res := match s with
  | .Expr e _ => if isComp e then .stuck else (J.e sc σ e).bind fun _ => .ok (.next σ)
  | .Assign ts e _ => (match ts with
    | [t] => asgP J sc σ t e
    | _ => .stuck)
  | .If t b o _ => (J.t sc σ t).bind fun c => if c then J.b sc σ b else J.b sc σ o
  | .Return e _ => (match e with
    | some e => (J.e sc σ e).bind fun v => .ok (.ret v)
    | none => .ok (.ret .none))
  | .For t iter body els _ => (match els with
    | [] => if isTupT t then zipForP J sc σ t iter body else if isSetE iter then .stuck else (iterP J sc σ iter).bind fun items => loopP (fun σ' => J.b sc σ' body) sc t items σ
    | _ => .stuck)
  | .Raise e c _ => raiseP J sc σ e c
  | _ => .stuck
noncomputable def exB (sc : Scope) : List Stmt -> Vars -> Out Res
  | [], σ => .ok (.next σ)
  | s :: r, σ => (exS J sc σ s).bind fun q => match q with
    | .next σ' => exB sc r σ'
    | .ret v => .ok (.ret v)
noncomputable def stepI : I := ⟨evE G J, evT G J, fun sc σ b => exB J sc b σ⟩
end
noncomputable def run (G : Gl) : Nat -> I
  | 0 => ⟨fun _ _ _ => .stuck, fun _ _ _ => .stuck, fun _ _ _ => .stuck⟩
  | n + 1 => stepI G (run G n)
noncomputable def toRet (r : Res) : Out PV := match r with
  | .next _ => .ok .none
  | .ret v => .ok v
noncomputable def fnP (G : Gl) (n : Nat) (sc : Scope) (ps : List Str) (body : List Stmt) (args : List PV) : Out PV :=
  if ps.length = args.length then ((run G n).b sc (ps.zip args).reverse body).bind toRet else .stuck
noncomputable def Room (n : Nat) (A : Around) : Prop := A.depth + n < 900 /\ A.units + 10 * n + 200 < 9900
theorem Room.dep {n : Nat} {A : Around} (r : Room n A) : A.depth < recursionLimit := by have := r.1; show A.depth < 1000; omega
theorem Room.less {n m : Nat} {A : Around} (r : Room n A) (h : m <= n) : Room m A := ⟨by have := r.1; omega, by have := r.2; omega⟩
theorem Room.deeper {n : Nat} {A : Around} (r : Room (n + 1) A) (env : Env) : Room n (A.deeper env) := ⟨by have := r.1; show A.depth + 1 + n < 900; omega, by have := r.2; show A.units + 3 + 10 * n + 200 < 9900; omega⟩
structure Sit (W : Wd) (n : Nat) (A : Around) (X : Addr -> Prop) (s : Shared) : Prop where
  base : Base W s.heap
  room : Room n A
  hand : A.handled = none
  fr : ∃ l, A.frames = some l /\ Stk W l s.heap
  priv : ∀ a, X a -> a < s.heap.objs.size
noncomputable def AtTop (A : Around) (env : Env) : Prop := ∃ e0 rest L, A.frames = some (e0 :: rest) /\ e0.frame = some L /\ env.frame = some L
noncomputable def VarAt (W : Wd) (X : Addr -> Prop) (env : Env) (h : Heap) (m : Str -> Option Value) (x : Str) (p : PV) : Prop :=
  (env.kindOf x = some .local /\ ∃ v, m x = some v /\ Rep W h X v p) \/
  ((env.kindOf x = some .cell \/ env.kindOf x = some .free) /\ (x == ("__classdict__" : Str)) = false /\ ∃ c v, env.cells.lookup x = some c /\ h.IsCell c (some v) /\ Rep W h X v p)
structure EnvOK (W : Wd) (sc : Scope) (σ : Vars) (X : Addr -> Prop) (env : Env) (h : Heap) : Prop where
  kind : env.scope.kind = .function
  gl : env.globals = mainGlobals
  bi : env.builtins = builtinsNs
  ns : ∃ m, h.Ns env.locals m /\ ∀ x p, σ.lookup x = some p -> VarAt W X env h m x p
  glob : ∀ x, sc.names.lookup x = some .globalImplicit -> env.kindOf x = some .globalImplicit
  loc : ∀ x, env.kindOf x = some .local -> sc.names.lookup x = some .local
  lam : sc.names.lookup ("_law_heard" : Str) = some .globalImplicit -> ∃ c P, env.code = .ref c /\ (c, P, env.qual ++ "<lambda>") ∈ W.tabs
noncomputable abbrev Post {α β : Type} (W : Wd) (s : Shared) (RR : Heap -> β -> α -> Prop) (r : Out α) : β -> Shared -> Prop := fun v s' => ∃ a, r = .ok a /\ RR s'.heap v a /\ Step W NoA s s'
noncomputable abbrev Epost {α : Type} (W : Wd) (X : Addr -> Prop) (s : Shared) (r : Out α) : Value -> Shared -> Prop := fun e s' => ∃ pa, r = .err pa /\ Exc W s'.heap X s.heap.objs.size Fl0 e pa /\ Step W NoA s s'
noncomputable abbrev RV (W : Wd) (X : Addr -> Prop) : Heap -> Value -> PV -> Prop := fun h v p => Rep W h X v p
noncomputable abbrev RVs (W : Wd) (X : Addr -> Prop) : Heap -> List Value -> List PV -> Prop := fun h v p => Reps W h X v p
noncomputable abbrev RB : Heap -> Bool -> Bool -> Prop := fun _ b c => b = c
section
variable {W : Wd} {n : Nat} {A : Around} {X : Addr -> Prop} {s s' : Shared} {sc : Scope} {σ : Vars} {env : Env}
theorem Sit.step (S : Sit W n A X s) (t : Step W NoA s s') : Sit W n A X s' :=
  ⟨t.base, S.room, S.hand, let ⟨l, a, b⟩ := S.fr; ⟨l, a, b.step t.fr⟩, fun a h => Nat.lt_of_lt_of_le (S.priv a h) t.size⟩
theorem Sit.stepY {Y : Addr -> Prop} (S : Sit W n A X s) (t : Step W Y s s') : Sit W n A X s' :=
  ⟨t.base, S.room, S.hand, let ⟨l, a, b⟩ := S.fr; ⟨l, a, b.step t.fr⟩, fun a h => Nat.lt_of_lt_of_le (S.priv a h) t.size⟩
theorem ns_keeps {h h' : Heap} {Y : Addr -> Prop} {a : Addr} {m : Str -> Option Value} (x : h.Ns a m) (k : KeepsBut Y h h') (hy : ¬ Y a) : h'.Ns a m := by
  obtain ⟨o, es, ep, ho, hd, r⟩ := x
  obtain ⟨sl, e, _⟩ := k a o ho hy (fun q => by obtain ⟨_, vs, q⟩ := q; rw [hd] at q; cases q)
  exact ⟨_, es, ep, e, hd, r⟩
theorem cell_keeps {h h' : Heap} {Y : Addr -> Prop} {c : Addr} {v : Option Value} (x : h.IsCell c v) (k : KeepsBut Y h h') (hy : ¬ Y c) : h'.IsCell c v := by
  obtain ⟨o, ho, hd⟩ := x
  obtain ⟨sl, e, _⟩ := k c o ho hy (fun q => by obtain ⟨_, vs, q⟩ := q; rw [hd] at q; cases q)
  exact ⟨_, e, hd⟩
theorem VarAt.keeps {h h' : Heap} {m : Str -> Option Value} {x : Str} {p : PV} (v : VarAt W X env h m x p) (k : Keeps h h') : VarAt W X env h' m x p := by
  rcases v with ⟨a, v, b, c⟩ | ⟨a, cd, c, v, b, d, e⟩
  · exact .inl ⟨a, v, b, c.keeps k fun _ f => f.elim⟩
  · exact .inr ⟨a, cd, c, v, b, cell_keeps d k id, e.keeps k fun _ f => f.elim⟩
theorem EnvOK.step {h h' : Heap} (O : EnvOK W sc σ X env h) (k : Keeps h h') : EnvOK W sc σ X env h' :=
  ⟨O.kind, O.gl, O.bi, let ⟨m, a, b⟩ := O.ns; ⟨m, ns_keeps a k id, fun x p e => (b x p e).keeps k⟩, O.glob, O.loc, O.lam⟩
theorem Epost.out {α γ : Type} {r : Out α} {k : α -> Out γ} {e : Value} (h : Epost W X s r e s') : Epost W X s (r.bind k) e s' := by
  obtain ⟨c, q, x, t⟩ := h
  exact ⟨c, by rw [q]; rfl, x, t⟩
theorem bind_ne {α γ : Type} {r : Out α} {k : α -> Out γ} (h : r.bind k ≠ .stuck) : r ≠ .stuck := fun q => h (by rw [q]; rfl)
theorem bind_ne2 {α γ : Type} {r : Out α} {k : α -> Out γ} {a : α} (h : r.bind k ≠ .stuck) (hr : r = .ok a) : k a ≠ .stuck := fun q => h (by rw [hr]; exact q)
end
noncomputable def Keeper1 (W : Wd) (fv : Value) : Prop := (∀ a, fv ≠ .ref a) \/ keepIn W.K fv = true
structure FnOK (W : Wd) (n : Nat) (fv : Value) (F : List PV -> Out PV) : Prop where
  kp : Keeper1 W fv
  run : ∀ A X s vs ps, Sit W n A X s -> Reps W s.heap X vs ps -> F ps ≠ .stuck -> wpAny (model W.prog W.w) A (call fv vs) (Post W s (RV W X) (F ps)) (Epost W X s (F ps)) s
noncomputable def GlobAt (W : Wd) (x : Str) (v : Value) : Prop := W.mg x = some v \/ (W.mg x = none /\ W.mb x = some v)
structure HeardOK (W : Wd) (m : Nat) (fv : Value) : Prop where
  kp : Keeper1 W fv
  run : ∀ A X s q r (E : Value -> Shared -> Prop), Sit W (m + 2) A X s -> FnAt q s.heap -> (∀ A' s', Sit W m A' X s' -> Step W NoA s s' -> wpAny (model W.prog W.w) A' (call (.ref q) []) (Post W s' (RV W X) r) (Epost W X s' r) s') -> r ≠ .stuck ->
    wpAny (model W.prog W.w) A (call fv [.ref q]) (Post W s (RV W X) (heardOut r)) E s
structure Hy (W : Wd) (G : Gl) (n : Nat) : Prop where
  ok : W.Ok
  gc : ∀ x p, G.gc x = some p -> ∃ u, GlobAt W x u /\ ∀ h X, Rep W h X u p
  D : ∀ f F, G.D f = some F -> ∃ fv, GlobAt W f fv /\ FnOK W n fv F
  attr : ∀ A X s v p name q expr (E : Value -> Shared -> Prop), Sit W n A X s -> Rep W s.heap X v p -> attrP p name = .ok q -> wpAny (model W.prog W.w) A (getAttr v name expr) (Post W s (RV W X) (.ok q)) E s
  told : ∃ fv, FnOK W n fv toldP /\ ∀ A X s v c d r o i m pl (E : Value -> Shared -> Prop), Sit W n A X s -> Rep W s.heap X v (.ord c d r o i m) ->
    wpAny (model W.prog W.w) A (getMethod v "told" pl) (fun fx s2 => fx = (fv, [v]) /\ Step W NoA s s2) E s
  range : GlobAt W "range" (.type "range")
  zip : GlobAt W "zip" (.type "zip")
  sub : mroIn W.K W.ec (.type "BaseException") = some true
  typ : typeIn W.K (.ref W.ec) = some (.type "type")
  exc : ∃ cv, GlobAt W "CodeError" cv /\ Keeper1 W cv /\ ∀ A X s vs ps pa (E : Value -> Shared -> Prop), Sit W n A X s -> Reps W s.heap X vs ps -> excP ps = .err pa ->
    wpAny (model W.prog W.w) A (call cv vs) (fun v s' => Exc W s'.heap X s.heap.objs.size (fun o => o = none) v pa /\ Step W NoA s s') E s
  heard : ∃ fv, GlobAt W "_law_heard" fv /\ ∀ m, HeardOK W m fv
noncomputable def SndE (W : Wd) (n : Nat) (J : I) : Prop := ∀ sc σ e env A X s, Sit W n A X s -> AtTop A env -> EnvOK W sc σ X env s.heap -> J.e sc σ e ≠ .stuck ->
  wpAny (model W.prog W.w) A (eval e env) (Post W s (RV W X) (J.e sc σ e)) (Epost W X s (J.e sc σ e)) s
noncomputable def SndT (W : Wd) (n : Nat) (J : I) : Prop := ∀ sc σ e env A X s, Sit W n A X s -> AtTop A env -> EnvOK W sc σ X env s.heap -> J.t sc σ e ≠ .stuck ->
  wpAny (model W.prog W.w) A (isTrue e env (eval e env)) (Post W s RB (J.t sc σ e)) (Epost W X s (J.t sc σ e)) s
section
variable {W : Wd} {G : Gl} {n : Nat} {J : I} {sc : Scope} {σ : Vars} {env : Env} {A : Around} {X : Addr -> Prop} {s : Shared}
theorem loadGlobal_any {x : Str} {v : Value} {Q : Value -> Shared -> Prop} {E : Value -> Shared -> Prop} {M : Model} (ok : W.Ok) (B : Base W s.heap) (hg : env.globals = mainGlobals) (hb : env.builtins = builtinsNs)
    (hv : GlobAt W x v) (h : Q v s) : wpAny M A (loadGlobal env x) Q E s := by
  unfold loadGlobal
  rw [hg, hb]
  refine wpAny_bind (wpAny_nsGet (ok.nsg B) ?_)
  rcases hv with q | ⟨q, q'⟩
  · rw [q]; exact wpAny_pure h
  · rw [q]; exact wpAny_bind (wpAny_nsGet (ok.nsb B) (by rw [q']; exact wpAny_pure h))
theorem loadName_glob {x : Str} {v : Value} {Q : Value -> Shared -> Prop} {E : Value -> Shared -> Prop} {M : Model} (ok : W.Ok) (B : Base W s.heap) (O : EnvOK W sc σ X env s.heap)
    (hk : sc.names.lookup x = some .globalImplicit) (hv : GlobAt W x v) (h : Q v s) : wpAny M A (loadName env x) Q E s := by
  unfold loadName
  simp only [Env.blockKind, O.kind, O.glob x hk, ScopeKind.isAnnotationScope, Bool.false_and, Bool.false_eq_true, if_false]
  exact loadGlobal_any ok B O.gl O.bi hv h
theorem loadName_var {x : Str} {p : PV} {Q : Value -> Shared -> Prop} {E : Value -> Shared -> Prop} {M : Model} (O : EnvOK W sc σ X env s.heap)
    (hx : σ.lookup x = some p) (h : ∀ v, Rep W s.heap X v p -> Q v s) : wpAny M A (loadName env x) Q E s := by
  obtain ⟨m, hn, hv⟩ := O.ns
  rcases hv x p hx with ⟨a, v, b, c⟩ | ⟨a, cd, c, v, b, d, e⟩
  · exact wpAny_loadName_local O.kind a hn b (h v c)
  · rcases a with a | a
    · exact wpAny_loadName_cell O.kind a b d (h v e)
    · exact wpAny_loadName_free O.kind a b d (h v e) cd
theorem snd_Name (H : Hy W G n) (S : Sit W n A X s) (O : EnvOK W sc σ X env s.heap) {x : Str} {pos : Pos} (hne : evE G J sc σ (.Name x pos) ≠ .stuck) :
    wpAny (model W.prog W.w) A (eval (.Name x pos) env) (Post W s (RV W X) (evE G J sc σ (.Name x pos))) (Epost W X s (evE G J sc σ (.Name x pos))) s := by
  have e0 : evE G J sc σ (.Name x pos) = if x == "__debug__" then .stuck else varP G sc σ x := rfl
  rw [e0] at hne ⊢
  cases hd : x == ("__debug__" : Str) with
  | true => rw [hd] at hne; exact (hne rfl).elim
  | false =>
    rw [hd] at hne
    simp only [Bool.false_eq_true, if_false] at hne ⊢
    refine wpAny_Name ?_ hd
    unfold varP at hne ⊢
    cases hl : σ.lookup x with
    | some p =>
      rw [hl] at hne
      exact loadName_var O hl fun v r => ⟨p, rfl, r, Step.refl S.base⟩
    | none =>
      rw [hl] at hne
      dsimp only at hne ⊢
      by_cases hg : sc.names.lookup x = some .globalImplicit
      · rw [if_pos hg] at hne ⊢
        cases hc : G.gc x with
        | none => rw [hc] at hne; exact (hne rfl).elim
        | some p =>
          obtain ⟨u, a, b⟩ := H.gc x p hc
          exact loadName_glob H.ok S.base O hg a ⟨p, rfl, b _ _, Step.refl S.base⟩
      · rw [if_neg hg] at hne; exact (hne rfl).elim
theorem snd_Constant (S : Sit W n A X s) {c : Const} {k : Nat} {pos : Pos} (hne : evE G J sc σ (.Constant c k pos) ≠ .stuck) :
    wpAny (model W.prog W.w) A (eval (.Constant c k pos) env) (Post W s (RV W X) (evE G J sc σ (.Constant c k pos))) (Epost W X s (evE G J sc σ (.Constant c k pos))) s := by
  cases c with
  | none => exact wpAny_Constant_none ⟨_, rfl, .none, Step.refl S.base⟩
  | bool b => exact wpAny_Constant_bool ⟨_, rfl, .bool b, Step.refl S.base⟩
  | int i => exact wpAny_Constant_int ⟨_, rfl, .int i _, Step.toks S.base⟩
  | str x => exact wpAny_Constant_str ⟨_, rfl, .str x _, Step.toks S.base⟩
  | _ => exact (hne rfl).elim
end
section
variable {W : Wd} {h : Heap} {X : Addr -> Prop}
theorem rd_eq {v : Value} {d d' : PyData} (e : some d = some d') (k : ∃ as, Reads h v d as) : ∃ as, Reads h v d' as := Option.some.inj e ▸ k
theorem rds_eq {v : List Value} {d d' : List PyData} (e : some d = some d') (k : ∃ as, ReadsAll h v d as) : ∃ as, ReadsAll h v d' as := Option.some.inj e ▸ k
theorem Rep.reads {v : Value} {p : PV} (r : Rep W h X v p) : ∀ {d : PyData}, toPy p = some d -> ∃ as, Reads h v d as := by
  refine r.rec (motive_1 := fun v p _ => ∀ {d : PyData}, toPy p = some d -> ∃ as, Reads h v d as) (motive_2 := fun vs ps _ => ∀ {ds : List PyData}, toPys ps = some ds -> ∃ as, ReadsAll h vs ds as)
    (fun e => rd_eq e ⟨_, .none⟩) (fun b _ e => rd_eq e ⟨_, .bool b⟩) (fun i t _ e => rd_eq e ⟨_, .int i t⟩) (fun x t _ e => rd_eq e ⟨_, .str x t⟩) (fun _ _ _ e => nomatch e)
    (fun e1 hc hd _ _ _ ih _ e => ?_) (fun e1 hc hd _ _ ih _ e => ?_) (fun _ _ _ _ _ e => nomatch e) (fun _ _ e => nomatch e) (fun e => rds_eq e ⟨_, .nil⟩) (fun {v vs x xs} _ _ ih ihs ds e => ?_)
  · obtain ⟨ds, hds, rfl⟩ := Option.map_eq_some_iff.mp e
    obtain ⟨as, q⟩ := ih hds
    exact ⟨_, .list e1 hc hd q⟩
  · obtain ⟨ds, hds, rfl⟩ := Option.map_eq_some_iff.mp e
    obtain ⟨as, q⟩ := ih hds
    exact ⟨_, .tuple e1 hc hd q⟩
  · have e2 : (match toPy x, toPys xs with
      | some d, some ds => some (d :: ds)
      | _, _ => Option.none) = some ds := e
    cases h1 : toPy x with
    | none => rw [h1] at e2; exact nomatch e2
    | some d => cases h2 : toPys xs with
      | none => rw [h1, h2] at e2; exact nomatch e2
      | some ds' =>
        rw [h1, h2] at e2
        obtain ⟨as, q⟩ := ih h1
        obtain ⟨bs, q'⟩ := ihs h2
        exact rds_eq e2 ⟨_, .cons q q'⟩
theorem allInts_cons {x : PV} {r : List PV} {ns : List Int} (e : allInts (x :: r) = some ns) : ∃ i l, x = .int i /\ allInts r = some l /\ ns = i :: l := by
  induction x using PV.casesOn with
  | int i =>
    obtain ⟨l, hl, rfl⟩ := Option.map_eq_some_iff.mp (show (allInts r).map (i :: ·) = some ns from e)
    exact ⟨i, l, rfl, hl, rfl⟩
  | _ => exact nomatch e
theorem Reps.ints {ps : List PV} {vs : List Value} (r : Reps W h X vs ps) : ∀ {ns : List Int}, allInts ps = some ns -> IntsAre vs ns :=
  r.ind (C := fun vs ps => ∀ {ns : List Int}, allInts ps = some ns -> IntsAre vs ns) (fun e => Option.some.inj e ▸ .nil) fun r _ ih _ e => by
    obtain ⟨i, l, rfl, hl, rfl⟩ := allInts_cons e
    obtain ⟨t, rfl⟩ := r.isInt
    exact .cons i t (ih hl)
end
section
variable {W : Wd} {G : Gl} {n : Nat} {J : I} {sc : Scope} {σ : Vars} {env : Env} {A : Around} {X : Addr -> Prop} {s : Shared} {E : Value -> Shared -> Prop}
theorem outOpt_ne {α : Type} {o : Option α} (h : outOpt o ≠ .stuck) : ∃ a, o = some a := by
  induction o using Option.casesOn with
  | none => exact (h rfl).elim
  | some a => exact ⟨a, rfl⟩
theorem ints_ne {P : Out PV -> Prop} {h : Heap} {f : Int -> Int -> Out PV} {va vb : Value} {a b : PV} (ra : Rep W h X va a) (rb : Rep W h X vb b) (H : ∀ x tx y ty, va = .int x tx -> vb = .int y ty -> f x y ≠ .stuck -> P (f x y)) (hne : intsP a b f ≠ .stuck) : P (intsP a b f) := by
  obtain ⟨x, rfl⟩ := onInt_is hne
  obtain ⟨y, rfl⟩ := onInt_is (show onInt b (fun y => f x y) ≠ .stuck from hne)
  obtain ⟨tx, ex⟩ := ra.isInt
  obtain ⟨ty, ey⟩ := rb.isInt
  exact H x tx y ty ex ey hne
theorem if_ne {α : Type} {c : Prop} [Decidable c] {x : Out α} {P : Out α -> Prop} (H : c -> P x) (hne : (if c then x else .stuck) ≠ .stuck) : P (if c then x else .stuck) := by
  by_cases h : c
  · rw [if_pos h]; exact H h
  · rw [if_neg h] at hne; exact (hne rfl).elim
theorem ifn_ne {α : Type} {c : Prop} [Decidable c] {x : Out α} {P : Out α -> Prop} (H : ¬ c -> P x) (hne : (if c then .stuck else x) ≠ .stuck) : P (if c then .stuck else x) := by
  by_cases h : c
  · rw [if_pos h] at hne; exact (hne rfl).elim
  · rw [if_neg h]; exact H h
theorem snd_addL (S : Sit W n A X s) {va vb : Value} {x y : List PV} (ra : Rep W s.heap X va (.list x)) (rb : Rep W s.heap X vb (.list y)) (hc : x.length + y.length <= 100000) :
    wpAny (model W.prog W.w) A (binaryOp .Add va vb) (Post W s (RV W X) (.ok (.list (x ++ y)))) E s := by
  obtain ⟨l1, o1, vs1, n1, rfl, e1, c1, d1, x1, z1, r1⟩ := ra.isList
  obtain ⟨l2, o2, vs2, n2, rfl, e2, c2, d2, x2, z2, r2⟩ := rb.isList
  obtain ⟨cls, dd, data, sl⟩ := o1
  obtain ⟨cls2, dd2, data2, sl2⟩ := o2
  simp only at c1 d1 c2 d2
  subst c1 d1 c2 d2
  have e : vs1.toArray ++ vs2.toArray = (vs1 ++ vs2).toArray := by simp
  have hl1 := r1.length
  have hl2 := r2.length
  refine concat_meets ⟨_, e1, rfl⟩ ⟨_, e2, rfl⟩ noFill_list_add seq_list_add PySem.F.slot_list_add PySem.F.entry_list_add (PySem.F.args_list_add_2 _ _)
    (list_addW l1 l2 vs1.toArray vs2.toArray n1 n2 dd dd2 sl sl2 (by simp only [List.size_toArray]; rw [hl1, hl2, sizeLine_eq]; omega)) ⟨e1, e2, ?_⟩
  rw [e]
  have st : Step W NoA s { s with heap := s.heap.push { cls := .type "list", data := .seq (vs1 ++ vs2).toArray } } := Step.push S.base
  exact ⟨_, rfl, .list (Heap.get?_push_size _ rfl) rfl rfl (fun q => Nat.lt_irrefl _ (S.priv _ q)) rfl ((r1.append r2).keeps st.keeps fun _ f => f.elim), st⟩
theorem bits64 {x : Int} (hx : x.natAbs < 2 ^ 64) : Builtin.Int.intBits x <= 64 := by
  unfold Builtin.Int.intBits
  split
  · omega
  · rename_i hz
    have : x.natAbs ≠ 0 := by
      intro q; apply hz; simp; omega
    have := (Nat.log2_lt this).mpr hx
    omega
theorem snd_binop (S : Sit W n A X s) {op : Operator} {va vb : Value} {a b : PV} (ra : Rep W s.heap X va a) (rb : Rep W s.heap X vb b) : binop op a b ≠ .stuck ->
    wpAny (model W.prog W.w) A (binaryOp op va vb) (Post W s (RV W X) (binop op a b)) E s := by
  have T : ∀ i t, Post W s (RV W X) (.ok (.int i)) (.int i t) { s with toks := s.toks + 1 } := fun i t => ⟨_, rfl, .int _ _, Step.toks S.base⟩
  induction op using PySem.Operator.casesOn with
  | Add =>
    intro hne
    induction a using PV.casesOn with
    | int x =>
      obtain ⟨y, rfl⟩ := onInt_is hne
      obtain ⟨tx, rfl⟩ := ra.isInt
      obtain ⟨ty, rfl⟩ := rb.isInt
      exact add_int (T _ _)
    | list x =>
      obtain ⟨y, rfl⟩ := onList_is hne
      exact if_ne (P := fun z => wpAny _ A _ (Post W s (RV W X) z) E s) (fun hc => snd_addL S ra rb hc) hne
    | bytes x =>
      obtain ⟨y, rfl⟩ := onBytes_is hne
      obtain ⟨tx, rfl⟩ := ra.isBytes
      obtain ⟨ty, rfl⟩ := rb.isBytes
      exact if_ne (P := fun z => wpAny _ A _ (Post W s (RV W X) z) E s) (fun hc => bytes_add_K (by simp only [List.size_toArray]; omega) rfl fun t' k => ⟨_, rfl, .bytes _ _, Step.toks S.base⟩) hne
    | str x =>
      obtain ⟨y, rfl⟩ := onStr_is hne
      obtain ⟨tx, rfl⟩ := ra.isStr
      obtain ⟨ty, rfl⟩ := rb.isStr
      exact if_ne (P := fun z => wpAny _ A _ (Post W s (RV W X) z) E s) (fun hc => SB.add (fun t' k => ⟨_, rfl, .str _ _, Step.toks S.base⟩) (by rw [sizeLine_eq]; omega)) hne
    | _ => exact (hne rfl).elim
  | Sub => exact ints_ne (P := fun z => wpAny _ A _ (Post W s (RV W X) z) E s) ra rb fun x tx y ty e1 e2 _ => by rw [e1, e2]; exact sub_int' (T _ _)
  | Mult =>
    exact ints_ne (P := fun z => wpAny _ A _ (Post W s (RV W X) z) E s) ra rb fun x tx y ty e1 e2 => by
      rw [e1, e2]
      exact if_ne (P := fun z => wpAny _ A _ (Post W s (RV W X) z) E s) fun hc => mul_int (T _ _) (hc.elim (fun h => IntMulOk.of_right (bits64 h)) fun h => IntMulOk.of_left (bits64 h))
  | Mod =>
    exact ints_ne (P := fun z => wpAny _ A _ (Post W s (RV W X) z) E s) ra rb fun x tx y ty e1 e2 => by
      rw [e1, e2]
      exact ifn_ne (P := fun z => wpAny _ A _ (Post W s (RV W X) z) E s) fun hc => mod_int' hc (T _ _)
  | FloorDiv =>
    exact ints_ne (P := fun z => wpAny _ A _ (Post W s (RV W X) z) E s) ra rb fun x tx y ty e1 e2 => by
      rw [e1, e2]
      exact ifn_ne (P := fun z => wpAny _ A _ (Post W s (RV W X) z) E s) fun hc => floordiv_int (fun q => hc (.inl q)) (T _ _) (.inl (PyProof.noPylong_of_log2 (by omega)))
  | LShift =>
    exact ints_ne (P := fun z => wpAny _ A _ (Post W s (RV W X) z) E s) ra rb fun x tx y ty e1 e2 => by
      rw [e1, e2]
      exact if_ne (P := fun z => wpAny _ A _ (Post W s (RV W X) z) E s) fun hc => lshift_int_small hc.1 (by omega) hc.2.2 (T _ _)
  | RShift =>
    exact ints_ne (P := fun z => wpAny _ A _ (Post W s (RV W X) z) E s) ra rb fun x tx y ty e1 e2 => by
      rw [e1, e2]
      exact if_ne (P := fun z => wpAny _ A _ (Post W s (RV W X) z) E s) fun hc => rshift_int hc (T _ _)
  | BitAnd => exact ints_ne (P := fun z => wpAny _ A _ (Post W s (RV W X) z) E s) ra rb fun x tx y ty e1 e2 _ => by rw [e1, e2]; exact and_int (T _ _)
  | Pow =>
    exact ints_ne (P := fun z => wpAny _ A _ (Post W s (RV W X) z) E s) ra rb fun x tx y ty e1 e2 => by
      rw [e1, e2]
      exact if_ne (P := fun z => wpAny _ A _ (Post W s (RV W X) z) E s) fun hc => pow_int_small hc.1 (by omega) hc.2.2 (T _ _)
  | _ => exact fun hne => (hne rfl).elim
theorem snd_truthy (S : Sit W n A X s) {v : Value} {p : PV} (r : Rep W s.heap X v p) : truthyP p ≠ .stuck -> wpAny (model W.prog W.w) A (truthy v) (Post W s RB (truthyP p)) E s := by
  intro hne
  induction p using PV.casesOn with
  | bool b => rw [r.isBool]; exact wpAny_truthy_bool ⟨_, rfl, rfl, Step.refl S.base⟩
  | int i =>
    obtain ⟨t, rfl⟩ := r.isInt
    exact truthy_int ⟨_, rfl, rfl, Step.refl S.base⟩
  | none => rw [r.isNone]; exact truthy_none ⟨_, rfl, rfl, Step.refl S.base⟩
  | _ => exact (hne rfl).elim
theorem snd_unop (S : Sit W n A X s) {op : UnaryOp} {v : Value} {p : PV} (r : Rep W s.heap X v p) : unop op p ≠ .stuck -> wpAny (model W.prog W.w) A (unaryOp op v) (Post W s (RV W X) (unop op p)) E s := by
  intro hne
  induction op using PySem.UnaryOp.casesOn with
  | USub =>
    obtain ⟨i, rfl⟩ := onInt_is hne
    obtain ⟨t, rfl⟩ := r.isInt
    exact neg_int ⟨_, rfl, .int _ _, Step.toks S.base⟩
  | Invert =>
    obtain ⟨i, rfl⟩ := onInt_is hne
    obtain ⟨t, rfl⟩ := r.isInt
    exact invert_int ⟨_, rfl, .int _ _, Step.toks S.base⟩
  | Not =>
    refine not_of (wpAny_mono (snd_truthy (E := E) S r (bind_ne hne)) (fun c s' q => ?_) fun _ _ q => q)
    obtain ⟨b, e, rfl, t⟩ := q
    exact ⟨_, by show (truthyP p).bind _ = _; rw [e]; rfl, .bool _, t⟩
  | _ => exact (hne rfl).elim
theorem eqP_at {va vb : Value} {a b : PV} {c : Bool} (ra : Rep W s.heap X va a) (rb : Rep W s.heap X vb b) (e : eqP a b = some c) : ∃ da db as bs, Reads s.heap va da as /\ Reads s.heap vb db bs /\ SeqAt.shaped da = true /\ SeqAt.shaped db = true /\ PyData.eqv da db = c := by
  unfold eqP at e
  cases h1 : toPy a with
  | none => rw [h1] at e; exact nomatch e
  | some da =>
    cases h2 : toPy b with
    | none => rw [h1, h2] at e; exact nomatch e
    | some db =>
      rw [h1, h2] at e
      dsimp only at e
      by_cases hs : SeqAt.shaped da = true /\ SeqAt.shaped db = true
      · rw [if_pos hs] at e
        obtain ⟨as, q⟩ := ra.reads h1
        obtain ⟨bs, q'⟩ := rb.reads h2
        exact ⟨da, db, as, bs, q, q', hs.1, hs.2, Option.some.inj e⟩
      · rw [if_neg hs] at e; exact nomatch e
theorem opt_ne {α : Type} {o : Option α} {f : α -> Out PV} {P : Out PV -> Prop} (H : ∀ a, o = some a -> P (f a)) (hne : (outOpt o).bind f ≠ .stuck) : P ((outOpt o).bind f) := by
  induction o using Option.casesOn with
  | none => exact (hne rfl).elim
  | some a => exact H a rfl
theorem isOp_ne {a b : PV} {t : Bool} (h : isOp a b t ≠ .stuck) : b = .none := by
  induction b using PV.casesOn with
  | none => rfl
  | _ => exact (h rfl).elim
theorem snd_cmpop (S : Sit W n A X s) {op : CmpOp} {va vb : Value} {a b : PV} (ra : Rep W s.heap X va a) (rb : Rep W s.heap X vb b) : cmpop op a b ≠ .stuck ->
    wpAny (model W.prog W.w) A (compareOp op va vb) (Post W s (RV W X) (cmpop op a b)) E s := by
  have hu : A.units + 64 < cLine := by have := S.room.2; show A.units + 64 < 9900; omega
  have T : ∀ c, Post W s (RV W X) (.ok (.bool c)) (.bool c) s := fun c => ⟨_, rfl, .bool _, Step.refl S.base⟩
  have eqs : ∀ {p : PV}, Rep W s.heap X va p -> (outOpt (eqP p b)).bind (fun c => Out.ok (PV.bool c)) ≠ .stuck -> wpAny (model W.prog W.w) A (compareOp .Eq va vb) (Post W s (RV W X) ((outOpt (eqP p b)).bind fun c => .ok (.bool c))) E s := fun ra =>
    opt_ne (P := fun z => wpAny _ A _ (Post W s (RV W X) z) E s) fun c e => by
      obtain ⟨da, db, as, bs, q, q', h1, h2, h3⟩ := eqP_at ra rb e
      exact SeqAt.compareEq_shaped q q' h1 h2 hu (h3 ▸ T _)
  have nes : ∀ {p : PV}, Rep W s.heap X va p -> (outOpt (eqP p b)).bind (fun c => Out.ok (PV.bool (!c))) ≠ .stuck -> wpAny (model W.prog W.w) A (compareOp .NotEq va vb) (Post W s (RV W X) ((outOpt (eqP p b)).bind fun c => .ok (.bool (!c)))) E s := fun ra =>
    opt_ne (P := fun z => wpAny _ A _ (Post W s (RV W X) z) E s) fun c e => by
      obtain ⟨da, db, as, bs, q, q', h1, h2, h3⟩ := eqP_at ra rb e
      exact SeqAt.compareNe_shaped q q' h1 h2 hu (h3 ▸ T _)
  induction op using PySem.CmpOp.casesOn with
  | Eq =>
    intro hne
    induction a using PV.casesOn with
    | int x =>
      obtain ⟨y, rfl⟩ := onInt_is hne
      obtain ⟨tx, rfl⟩ := ra.isInt
      obtain ⟨ty, rfl⟩ := rb.isInt
      exact eq_int (T _)
    | str x =>
      obtain ⟨y, rfl⟩ := onStr_is hne
      obtain ⟨tx, rfl⟩ := ra.isStr
      obtain ⟨ty, rfl⟩ := rb.isStr
      exact eq_str (T _)
    | bytes x =>
      obtain ⟨y, rfl⟩ := onBytes_is hne
      obtain ⟨tx, rfl⟩ := ra.isBytes
      obtain ⟨ty, rfl⟩ := rb.isBytes
      exact eq_bytes ⟨_, rfl, by simpa using .bool _, Step.refl S.base⟩
    | tuple l => exact eqs ra hne
    | _ => exact (hne rfl).elim
  | NotEq =>
    intro hne
    induction a using PV.casesOn with
    | int x =>
      obtain ⟨y, rfl⟩ := onInt_is hne
      obtain ⟨tx, rfl⟩ := ra.isInt
      obtain ⟨ty, rfl⟩ := rb.isInt
      exact ne_int (T _)
    | str x =>
      obtain ⟨y, rfl⟩ := onStr_is hne
      obtain ⟨tx, rfl⟩ := ra.isStr
      obtain ⟨ty, rfl⟩ := rb.isStr
      exact ne_str (T _)
    | tuple l => exact nes ra hne
    | list l => exact nes ra hne
    | _ => exact (hne rfl).elim
  | Lt => exact ints_ne (P := fun z => wpAny _ A _ (Post W s (RV W X) z) E s) ra rb fun x tx y ty e1 e2 _ => by rw [e1, e2]; exact lt_int (T _)
  | LtE => exact ints_ne (P := fun z => wpAny _ A _ (Post W s (RV W X) z) E s) ra rb fun x tx y ty e1 e2 _ => by rw [e1, e2]; exact le_int (T _)
  | Gt => exact ints_ne (P := fun z => wpAny _ A _ (Post W s (RV W X) z) E s) ra rb fun x tx y ty e1 e2 _ => by rw [e1, e2]; exact gt_int (T _)
  | GtE => exact ints_ne (P := fun z => wpAny _ A _ (Post W s (RV W X) z) E s) ra rb fun x tx y ty e1 e2 _ => by rw [e1, e2]; exact ge_int (T _)
  | Is =>
    intro hne
    have hb : b = .none := isOp_ne hne
    rw [hb] at rb hne ⊢
    rw [rb.isNone]
    induction a using PV.casesOn with
    | none => rw [ra.isNone]; exact is_none_none (T _)
    | tuple l =>
      obtain ⟨l, o, vs, n, rfl, _⟩ := ra.isTuple
      exact is_ref_none (T _)
    | _ => exact (hne rfl).elim
  | IsNot =>
    intro hne
    have hb : b = .none := isOp_ne hne
    rw [hb] at rb hne ⊢
    rw [rb.isNone]
    induction a using PV.casesOn with
    | none => rw [ra.isNone]; exact isnot_none_none (T _)
    | tuple l =>
      obtain ⟨l, o, vs, n, rfl, _⟩ := ra.isTuple
      exact isnot_ref_none (T _)
    | _ => exact (hne rfl).elim
  | In =>
    intro hne
    obtain ⟨x, rfl⟩ := onInt_is hne
    obtain ⟨ys, rfl⟩ := onTuple_is hne
    obtain ⟨tx, rfl⟩ := ra.isInt
    obtain ⟨l2, o2, vs2, n2, rfl, e2, c2, d2, x2, r2⟩ := rb.isTuple
    exact opt_ne (P := fun z => wpAny _ A _ (Post W s (RV W X) z) E s) (fun l hl => in_tuple_ints (ns := l) ⟨_, e2, c2, _, d2⟩ (by simpa using r2.ints hl) (T _)) hne
  | _ => exact fun hne => (hne rfl).elim
end
section
variable {W : Wd} {G : Gl} {n : Nat} {J : I} {sc : Scope} {σ : Vars} {env : Env} {A : Around} {X : Addr -> Prop} {s s' : Shared}
noncomputable abbrev Ev (W : Wd) (A : Around) (X : Addr -> Prop) (s : Shared) (m : Sem Value) (r : Out PV) : Prop := wpAny (model W.prog W.w) A m (Post W s (RV W X) r) (Epost W X s r) s
noncomputable abbrev EvB (W : Wd) (A : Around) (X : Addr -> Prop) (s : Shared) (m : Sem Bool) (r : Out Bool) : Prop := wpAny (model W.prog W.w) A m (Post W s RB r) (Epost W X s r) s
structure Here (W : Wd) (n : Nat) (A : Around) (X : Addr -> Prop) (sc : Scope) (σ : Vars) (env : Env) (s : Shared) : Prop where
  S : Sit W n A X s
  T : AtTop A env
  O : EnvOK W sc σ X env s.heap
theorem Here.step (H : Here W n A X sc σ env s) (t : Step W NoA s s') : Here W n A X sc σ env s' := ⟨H.S.step t, H.T, H.O.step t.keeps⟩
theorem Rep.step {v : Value} {p : PV} (r : Rep W s.heap X v p) (t : Step W NoA s s') : Rep W s'.heap X v p := r.keeps t.keeps fun _ f => f.elim
theorem Reps.step {v : List Value} {p : List PV} (r : Reps W s.heap X v p) (t : Step W NoA s s') : Reps W s'.heap X v p := r.keeps t.keeps fun _ f => f.elim
theorem SndE.at (SE : SndE W n J) (H : Here W n A X sc σ env s) {e : Expr} (hne : J.e sc σ e ≠ .stuck) : Ev W A X s (eval e env) (J.e sc σ e) := SE sc σ e env A X s H.S H.T H.O hne
theorem SndT.at (ST : SndT W n J) (H : Here W n A X sc σ env s) {e : Expr} (hne : J.t sc σ e ≠ .stuck) : EvB W A X s (isTrue e env (eval e env)) (J.t sc σ e) := ST sc σ e env A X s H.S H.T H.O hne
theorem Post.back {α β : Type} {RR : Heap -> β -> α -> Prop} {r : Out α} {v : β} {s'' : Shared} (t : Step W NoA s s') (h : Post W s' RR r v s'') : Post W s RR r v s'' := by
  obtain ⟨c, e, x, t'⟩ := h
  exact ⟨c, e, x, t.trans t'⟩
theorem Epost.back {α : Type} {r : Out α} {e : Value} {s'' : Shared} (t : Step W NoA s s') (h : Epost W X s' r e s'') : Epost W X s r e s'' := by
  obtain ⟨c, q, x, t'⟩ := h
  exact ⟨c, q, x.mono t.size fun _ q => q, t.trans t'⟩
theorem rebase {α β δ : Type} {m : Sem δ} {RR : Heap -> β -> α -> Prop} {r : Out α} {f : δ -> β} (t : Step W NoA s s')
    (h : wpAny (model W.prog W.w) A m (fun v => Post W s' RR r (f v)) (Epost W X s' r) s') : wpAny (model W.prog W.w) A m (fun v => Post W s RR r (f v)) (Epost W X s r) s' :=
  wpAny_mono h (fun _ _ q => Post.back t q) fun _ _ q => Epost.back t q
theorem rb {α β : Type} {m : Sem β} {RR : Heap -> β -> α -> Prop} {r : Out α} (t : Step W NoA s s')
    (h : wpAny (model W.prog W.w) A m (Post W s' RR r) (Epost W X s' r) s') : wpAny (model W.prog W.w) A m (Post W s RR r) (Epost W X s r) s' :=
  rebase (f := fun v => v) t h
theorem thenB {s0 : Shared} {α β γ : Type} {m : Sem β} {RR : Heap -> β -> α -> Prop} {r : Out α} {k : α -> Out γ} {P : β -> Shared -> Prop} (t0 : Step W NoA s0 s)
    (hne : r.bind k ≠ .stuck) (h1 : r ≠ .stuck -> wpAny (model W.prog W.w) A m (Post W s RR r) (Epost W X s r) s)
    (h2 : ∀ v a s', RR s'.heap v a -> Step W NoA s s' -> Step W NoA s0 s' -> k a ≠ .stuck -> r.bind k = k a -> P v s') :
    wpAny (model W.prog W.w) A m P (Epost W X s0 (r.bind k)) s :=
  wpAny_mono (h1 (bind_ne hne)) (fun v s' ⟨a, e, x, t⟩ => h2 v a s' x t (t0.trans t) (bind_ne2 hne e) (by rw [e]; rfl)) fun _ _ h => Epost.back t0 (Epost.out h)
theorem then_ {α β γ : Type} {m : Sem β} {RR : Heap -> β -> α -> Prop} {r : Out α} {k : α -> Out γ} {P : β -> Shared -> Prop}
    (hne : r.bind k ≠ .stuck) (h1 : r ≠ .stuck -> wpAny (model W.prog W.w) A m (Post W s RR r) (Epost W X s r) s)
    (h2 : ∀ v a s', RR s'.heap v a -> Step W NoA s s' -> k a ≠ .stuck -> r.bind k = k a -> P v s') :
    wpAny (model W.prog W.w) A m P (Epost W X s (r.bind k)) s :=
  wpAny_mono (h1 (bind_ne hne)) (fun v s' ⟨a, e, x, t⟩ => h2 v a s' x t (bind_ne2 hne e) (by rw [e]; rfl)) fun _ _ h => Epost.out h
theorem snd_BinOp (SE : SndE W n J) (H : Here W n A X sc σ env s) {op : Operator} {l r : Expr} {pos : Pos} (hne : evE G J sc σ (.BinOp l op r pos) ≠ .stuck) :
    Ev W A X s (eval (.BinOp l op r pos) env) (evE G J sc σ (.BinOp l op r pos)) := by
  have e0 : evE G J sc σ (.BinOp l op r pos) = (J.e sc σ l).bind fun a => (J.e sc σ r).bind fun b => binop op a b := rfl
  rw [e0] at hne ⊢
  refine wpAny_BinOp (then_ hne (SE.at H) fun va a s1 ra t1 hk1 c1 => ?_)
  rw [c1]
  refine thenB t1 hk1 (SE.at (H.step t1)) fun vb b s2 rb' t2 t02 hk2 c2 => ?_
  rw [c2]
  exact rb t02 (snd_binop (H.step t02).S (ra.step t2) rb' hk2)
theorem snd_UnaryOp (SE : SndE W n J) (H : Here W n A X sc σ env s) {op : UnaryOp} {x : Expr} {pos : Pos} (hne : evE G J sc σ (.UnaryOp op x pos) ≠ .stuck) :
    Ev W A X s (eval (.UnaryOp op x pos) env) (evE G J sc σ (.UnaryOp op x pos)) := by
  have e0 : evE G J sc σ (.UnaryOp op x pos) = (J.e sc σ x).bind fun a => unop op a := rfl
  rw [e0] at hne ⊢
  refine wpAny_UnaryOp (then_ hne (SE.at H) fun va a s1 ra t1 hk1 c1 => ?_)
  rw [c1]
  exact rb t1 (snd_unop (H.step t1).S ra hk1)
theorem snd_IfExp (SE : SndE W n J) (ST : SndT W n J) (H : Here W n A X sc σ env s) {a b c : Expr} {pos : Pos} (hne : evE G J sc σ (.IfExp a b c pos) ≠ .stuck) :
    Ev W A X s (eval (.IfExp a b c pos) env) (evE G J sc σ (.IfExp a b c pos)) := by
  have e0 : evE G J sc σ (.IfExp a b c pos) = (J.t sc σ a).bind fun q => if q then J.e sc σ b else J.e sc σ c := rfl
  rw [e0] at hne ⊢
  refine wpAny_IfExp (then_ hne (ST.at H) fun va q s1 ra t1 hk1 c1 => ?_)
  cases (show va = q from ra)
  rw [c1]
  cases va
  · exact rb t1 (SE.at (H.step t1) hk1)
  · exact rb t1 (SE.at (H.step t1) hk1)
theorem evList_cons (e : Expr) (r : List Expr) : evList J sc σ (e :: r) = if isStar e then .stuck else (J.e sc σ e).bind fun v => (evList J sc σ r).bind fun vs => .ok (v :: vs) := rfl
theorem star_cons {e : Expr} {r : List Expr} (h : isStar e = false) : starEach (e :: r) env = (false, eval e env) :: starEach r env := by
  induction e using PySem.Expr.casesOn with
  | Starred => exact nomatch h
  | _ => rfl
theorem snd_evList (SE : SndE W n J) {pos : Pos} : ∀ (es : List Expr) (s : Shared), Here W n A X sc σ env s -> evList J sc σ es ≠ .stuck ->
    wpAny (model W.prog W.w) A (spliced (backTo pos (starEach es env))) (Post W s (RVs W X) (evList J sc σ es)) (Epost W X s (evList J sc σ es)) s
  | [], s, H, _ => wpAny_items_nil ⟨[], rfl, .nil, Step.refl H.S.base⟩
  | e :: r, s, H, hne => by
    rw [evList_cons] at hne ⊢
    cases hs : isStar e with
    | true => rw [hs] at hne; exact (hne rfl).elim
    | false =>
      rw [hs] at hne
      simp only [Bool.false_eq_true, if_false] at hne ⊢
      refine wpAny_items_cons (then_ hne (SE.at H) fun va a s1 ra t1 hk1 c1 => ?_) ?_
      · rw [c1]
        refine thenB t1 hk1 (snd_evList SE r s1 (H.step t1)) fun vb b s2 rb t2 t02 hk2 c2 => ?_
        rw [c2]
        exact ⟨_, rfl, .cons (ra.step t2) rb, t02⟩
      · exact star_cons hs
theorem snd_List (SE : SndE W n J) (H : Here W n A X sc σ env s) {es : List Expr} {pos : Pos} (hne : evE G J sc σ (.List es pos) ≠ .stuck) :
    Ev W A X s (eval (.List es pos) env) (evE G J sc σ (.List es pos)) := by
  have e0 : evE G J sc σ (.List es pos) = (evList J sc σ es).bind fun vs => if vs.length <= 1000 then .ok (.list vs) else .stuck := rfl
  rw [e0] at hne ⊢
  refine wpAny_List (then_ hne (snd_evList SE es s H) fun va a s1 ra t1 hk1 c1 => ?_)
  rw [c1]
  have hl : a.length <= 1000 := by
    by_cases h : a.length <= 1000
    · exact h
    · rw [if_neg h] at hk1; exact (hk1 rfl).elim
  rw [if_pos hl]
  have st : Step W NoA s1 { s1 with heap := s1.heap.push { cls := .type "list", data := .seq va.toArray } } := Step.push (H.S.step t1).base
  exact ⟨by rw [ra.length, sizeLine_eq]; omega, _, rfl, .list (Heap.get?_push_size _ rfl) rfl rfl (fun q => Nat.lt_irrefl _ ((H.S.step t1).priv _ q)) rfl (ra.step st), t1.trans st⟩
theorem snd_Tuple (SE : SndE W n J) (H : Here W n A X sc σ env s) {es : List Expr} {k : Nat} {pos : Pos} (hne : evE G J sc σ (.Tuple es k pos) ≠ .stuck) :
    Ev W A X s (eval (.Tuple es k pos) env) (evE G J sc σ (.Tuple es k pos)) := by
  have e0 : evE G J sc σ (.Tuple es k pos) = (evList J sc σ es).bind fun vs => if vs.length <= 1000 then .ok (.tuple vs) else .stuck := rfl
  rw [e0] at hne ⊢
  refine wpAny_Tuple (then_ hne (snd_evList SE es s H) fun va a s1 ra t1 hk1 c1 => ?_)
  rw [c1]
  have hl : a.length <= 1000 := by
    by_cases h : a.length <= 1000
    · exact h
    · rw [if_neg h] at hk1; exact (hk1 rfl).elim
  rw [if_pos hl]
  have st : Step W NoA s1 { s1 with heap := s1.heap.push { cls := .type "tuple", data := .seq va.toArray } } := Step.push (H.S.step t1).base
  exact ⟨by rw [ra.length, sizeLine_eq]; omega, _, rfl, .tuple (Heap.get?_push_size _ rfl) rfl rfl (fun q => Nat.lt_irrefl _ ((H.S.step t1).priv _ q)) (ra.step st), t1.trans st⟩
theorem snd_evBool (SE : SndE W n J) {pos : Pos} {op : BoolOp} : ∀ (es : List Expr) (s : Shared), Here W n A X sc σ env s -> evBool J sc σ op es ≠ .stuck ->
    Ev W A X s (boolOp pos op (evalEach es env)) (evBool J sc σ op es)
  | [], s, H, hne => (hne rfl).elim
  | [e], s, H, hne => SE.at H hne
  | e :: e2 :: r, s, H, hne => by
    have e0 : evBool J sc σ op (e :: e2 :: r) = (J.e sc σ e).bind fun v => (truthyP v).bind fun t => boK op t (.ok v) (evBool J sc σ op (e2 :: r)) := rfl
    rw [e0] at hne ⊢
    show wpAny _ _ (do
      let v <- eval e env
      standAt pos
      let t <- holding [v] (truthy v)
      match op, t with
      | .And, false | .Or, true => pure v
      | _, _ => boolOp pos op (evalEach (e2 :: r) env)) _ _ s
    refine wpAny_bind (then_ hne (SE.at H) fun va a s1 ra t1 hk1 c1 => wpAny_bind (wpAny_standAt (wpAny_bind (wpAny_holding ?_))))
    rw [c1]
    refine thenB t1 hk1 (fun q => snd_truthy (H.step t1).S ra q) fun vb b s2 rb' t2 t02 hk2 c2 => ?_
    rw [c2]
    cases (show vb = b from rb')
    have rest : evBool J sc σ op (e2 :: r) ≠ .stuck -> wpAny (model W.prog W.w) A (boolOp pos op (evalEach (e2 :: r) env)) (Post W s (RV W X) (evBool J sc σ op (e2 :: r))) (Epost W X s (evBool J sc σ op (e2 :: r))) s2 :=
      fun q => rb t02 (snd_evBool SE (e2 :: r) s2 (H.step t02) q)
    cases op <;> cases vb
    · exact wpAny_pure ⟨_, rfl, ra.step t2, t02⟩
    · exact rest hk2
    · exact rest hk2
    · exact wpAny_pure ⟨_, rfl, ra.step t2, t02⟩
theorem snd_BoolOp (SE : SndE W n J) (H : Here W n A X sc σ env s) {op : BoolOp} {es : List Expr} {pos : Pos} (hne : evE G J sc σ (.BoolOp op es pos) ≠ .stuck) :
    Ev W A X s (eval (.BoolOp op es pos) env) (evE G J sc σ (.BoolOp op es pos)) := snd_evBool SE es s H hne
theorem snd_tsBool (ST : SndT W n J) {op : BoolOp} : ∀ (es : List Expr) (s : Shared), Here W n A X sc σ env s -> tsBool J sc σ op es ≠ .stuck ->
    EvB W A X s (allTrue op es env) (tsBool J sc σ op es)
  | [], s, H, hne => by
    cases op
    · exact wpAny_allTrue_And_nil ⟨_, rfl, rfl, Step.refl H.S.base⟩
    · exact wpAny_allTrue_Or_nil ⟨_, rfl, rfl, Step.refl H.S.base⟩
  | e :: r, s, H, hne => by
    have e0 : tsBool J sc σ op (e :: r) = (J.t sc σ e).bind fun t => boK op t (.ok (op == .Or)) (tsBool J sc σ op r) := rfl
    rw [e0] at hne ⊢
    cases op
    · refine wpAny_allTrue_And_cons (then_ hne (ST.at H) fun va a s1 ra t1 hk1 c1 => ?_)
      rw [c1]
      cases (show va = a from ra)
      cases va
      · exact ⟨_, rfl, rfl, t1⟩
      · exact rb t1 (snd_tsBool ST r s1 (H.step t1) hk1)
    · refine wpAny_allTrue_Or_cons (then_ hne (ST.at H) fun va a s1 ra t1 hk1 c1 => ?_)
      rw [c1]
      cases (show va = a from ra)
      cases va
      · exact rb t1 (snd_tsBool ST r s1 (H.step t1) hk1)
      · exact ⟨_, rfl, rfl, t1⟩
theorem cmp_is {l : Expr} {ops : List CmpOp} {rs : List Expr} (h : cmpP J sc σ l ops rs ≠ .stuck) : (∃ op r, ops = [op] /\ rs = [r] /\ behindInMarks op r = false) \/ ∃ op op2 m r, ops = [op, op2] /\ rs = [m, r] /\ behindInMarks op2 r = false := by
  induction ops using List.casesOn with
  | nil => exact (h rfl).elim
  | cons op ops => induction rs using List.casesOn with
    | nil => exact (h rfl).elim
    | cons r rs => induction ops using List.casesOn with
      | nil =>
        obtain rfl := onNil_is h
        refine .inl ⟨op, r, rfl, rfl, ?_⟩
        cases hb : behindInMarks op r with
        | false => rfl
        | true => exact (h (if_pos hb)).elim
      | cons op2 ops =>
        obtain rfl := onNil_is h
        obtain ⟨r2, rfl⟩ := only_is (show only rs _ ≠ .stuck from h)
        refine .inr ⟨op, op2, r, r2, rfl, rfl, ?_⟩
        cases hb : behindInMarks op2 r2 with
        | false => rfl
        | true => exact (h (if_pos hb)).elim
theorem cmp1 {l r : Expr} {op : CmpOp} (hb : behindInMarks op r = false) : cmpP J sc σ l [op] [r] = (J.e sc σ l).bind fun a => (J.e sc σ r).bind fun b => cmpop op a b := if_neg (by rw [hb]; exact Bool.false_ne_true)
theorem cmp2 {l m r : Expr} {op op2 : CmpOp} (hb : behindInMarks op2 r = false) : cmpP J sc σ l [op, op2] [m, r] = (J.e sc σ l).bind fun a => (J.e sc σ m).bind fun b => (cmpop op a b).bind fun c => (truthyP c).bind fun t =>
      if t then (J.e sc σ r).bind fun d => cmpop op2 b d else .ok c := if_neg (by rw [hb]; exact Bool.false_ne_true)
theorem snd_Compare (SE : SndE W n J) (H : Here W n A X sc σ env s) {l : Expr} {ops : List CmpOp} {rs : List Expr} {pos : Pos} (hne : evE G J sc σ (.Compare l ops rs pos) ≠ .stuck) :
    Ev W A X s (eval (.Compare l ops rs pos) env) (evE G J sc σ (.Compare l ops rs pos)) := by
  have e0 : evE G J sc σ (.Compare l ops rs pos) = cmpP J sc σ l ops rs := rfl
  rw [e0] at hne ⊢
  rcases cmp_is hne with ⟨op, r, rfl, rfl, hb⟩ | ⟨op, op2, m, r, rfl, rfl, hb⟩
  · rw [cmp1 hb] at hne ⊢
    refine wpAny_Compare1 (then_ hne (SE.at H) fun va a s1 ra t1 hk1 c1 => ?_) hb
    rw [c1]
    refine thenB t1 hk1 (SE.at (H.step t1)) fun vb b s2 rb' t2 t02 hk2 c2 => ?_
    rw [c2]
    exact rb t02 (snd_cmpop (H.step t02).S (ra.step t2) rb' hk2)
  · rw [cmp2 hb] at hne ⊢
    refine Compare_chain (then_ hne (SE.at H) fun va a s1 ra t1 hk1 c1 => ?_) hb
    rw [c1]
    refine chain_link (thenB t1 hk1 (SE.at (H.step t1)) fun vb b s2 rb' t2 t02 hk2 c2 => ?_)
    rw [c2]
    refine thenB t02 hk2 (fun q => snd_cmpop (H.step t02).S (ra.step t2) rb' q) fun vc c s3 rc t3 t03 hk3 c3 => ?_
    rw [c3]
    refine thenB t03 hk3 (fun q => snd_truthy (H.step t03).S rc q) fun vd d s4 rd t4 t04 hk4 c4 => ?_
    rw [c4]
    rw [show vd = d from rd]
    cases d
    · exact ⟨_, rfl, rc.step t4, t04⟩
    · refine chain_last (thenB t04 hk4 (SE.at (H.step t04)) fun ve e s5 re t5 t05 hk5 c5 => ?_)
      rw [c5]
      exact rb t05 (snd_cmpop (H.step t05).S ((rb'.step (t3.trans t4)).step t5) re hk5)
end
section
variable {W : Wd} {G : Gl} {n : Nat} {J : I} {sc : Scope} {σ : Vars} {env : Env} {A : Around} {X : Addr -> Prop} {s s' : Shared} {E : Value -> Shared -> Prop}
noncomputable def isSlice (e : Expr) : Bool := Nat.beq (tag e) 8
theorem subscripted_plain {sl : Expr} {o i : Value} (h : isSlice sl = false) : subscripted sl false o i = operate [o, i] (getItem o i) := by
  induction sl using PySem.Expr.casesOn with
  | Slice => exact nomatch h
  | _ => rfl
theorem snd_item (S : Sit W n A X s) {value slice : Expr} {vo vi : Value} {o i : PV} (hsl : isSlice slice = false) (ro : Rep W s.heap X vo o) (ri : Rep W s.heap X vi i) : itemP o i ≠ .stuck ->
    wpAny (model W.prog W.w) A (subscriptTail value slice vo vi) (Post W s (RV W X) (itemP o i)) E s := by
  intro hne
  obtain ⟨k, rfl⟩ := onInt_is hne
  obtain ⟨u, rfl⟩ := ri.isInt
  induction o using PV.casesOn with
  | list xs =>
    refine if_ne (P := fun z => wpAny _ A _ (Post W s (RV W X) z) E s) (fun hc => ?_) hne
    have hne' : outOpt xs[k.toNat]? ≠ .stuck := fun q => hne ((if_pos hc).trans q)
    obtain ⟨q, hq⟩ := outOpt_ne hne'
    rw [hq]
    obtain ⟨a1, o1, vs1, n1, rfl, e1, c1, d1, x1, z1, r1⟩ := ro.isList
    obtain ⟨v, hv, rv⟩ := r1.get hq
    have hl : s.heap.IsList _ _ := ⟨_, e1, c1, _, d1⟩
    exact tail_any hl.typeIs slot_list_getitem.lookup (wpAny_getItem_list hl hc.1 (by omega) (by simpa using hv) ⟨_, rfl, rv, Step.refl S.base⟩) (subscripted_plain hsl)
  | tuple xs =>
    refine if_ne (P := fun z => wpAny _ A _ (Post W s (RV W X) z) E s) (fun hc => ?_) hne
    have hne' : outOpt xs[k.toNat]? ≠ .stuck := fun q => hne ((if_pos hc).trans q)
    obtain ⟨q, hq⟩ := outOpt_ne hne'
    rw [hq]
    obtain ⟨a1, o1, vs1, n1, rfl, e1, c1, d1, x1, r1⟩ := ro.isTuple
    obtain ⟨v, hv, rv⟩ := r1.get hq
    have hl : IsTup s.heap _ _ := ⟨_, e1, c1, _, d1⟩
    have hlt : k.toNat < _ := (List.getElem?_eq_some_iff.mp hv).1
    refine tail_any hl.typeIs slot_tuple_getitem.lookup (getItem_tuple (j := k.toNat) hl (by omega) (by omega) ?_ (by simpa using hv) ⟨_, rfl, rv, Step.refl S.base⟩) (subscripted_plain hsl)
    have h1 : ¬ k < 0 := by omega
    have h3 : ((k.toNat : Nat) : Int) = k := Int.toNat_of_nonneg hc.1
    have h2 := Int.ofNat_lt.mpr hlt
    rw [h3] at h2
    simp [seqIndex?, h1, hc.1, h2]
  | bytes xs =>
    refine if_ne (P := fun z => wpAny _ A _ (Post W s (RV W X) z) E s) (fun hc => ?_) hne
    obtain ⟨t, rfl⟩ := ro.isBytes
    exact tail_any (typeIs_bytes _ _ _) FB.slot_bytes_getitem.lookup (getItem_bytes (by omega) hc.1 hc.2.1 ⟨_, rfl, .int _ _, Step.toks S.base⟩) (subscripted_plain hsl)
  | _ => exact (hne rfl).elim
theorem partP_ok {v : Value} {p : PV} (r : Rep W s.heap X v p) (h : partP p ≠ .stuck) : ∃ k, partP p = .ok k /\ IsPart v k /\ (∀ x, k = some x -> 0 <= x) := by
  induction p using PV.casesOn with
  | none => rw [r.isNone]; exact ⟨_, rfl, .none, nofun⟩
  | int k =>
    obtain ⟨t, rfl⟩ := r.isInt
    by_cases hk : 0 <= k
    · exact ⟨_, if_pos hk, .int _ _, fun x q => Option.some.inj q ▸ hk⟩
    · exact (h (if_neg hk)).elim
  | _ => exact (h rfl).elim
theorem part_value {v : Value} {k : Option Int} (h : IsPart v k) : ∃ p : Option (Int × Tok), v = partValue p /\ p.map (·.1) = k := by
  cases h with
  | none => exact ⟨none, rfl, rfl⟩
  | int i t => exact ⟨some (i, t), rfl, rfl⟩
theorem Reps.cut {vs : List Value} {ps : List PV} (r : Reps W s.heap X vs ps) (lo hi : Option Int) : Reps W s.heap X (kms_pick vs lo hi) (cutP ps lo hi) := by
  unfold kms_pick cutP
  rw [r.length]
  exact (r.drop _).take _
theorem clip_lo (lo : Option Int) (n : Nat) (h : ∀ x, lo = some x -> 0 <= x) : lo.elim 0 (clipAt n) = kms_lo lo n := by
  induction lo using Option.casesOn with
  | none => rfl
  | some x =>
    have hx := h x rfl
    obtain ⟨k, rfl⟩ := Int.eq_ofNat_of_zero_le hx
    show clipAt n ((k : Nat) : Int) = kms_lo (some ((k : Nat) : Int)) n
    rw [clipAt_nat]
    unfold kms_lo
    simp only [Int.toNat_natCast]
    rw [if_neg (by omega)]
theorem clip_hi (hi : Option Int) (n : Nat) (h : ∀ x, hi = some x -> 0 <= x) : hi.elim n (clipAt n) = kms_hi hi n := by
  induction hi using Option.casesOn with
  | none => rfl
  | some x =>
    have hx := h x rfl
    obtain ⟨k, rfl⟩ := Int.eq_ofNat_of_zero_le hx
    show clipAt n ((k : Nat) : Int) = kms_hi (some ((k : Nat) : Int)) n
    rw [clipAt_nat]
    unfold kms_hi
    simp only [Int.toNat_natCast]
    rw [if_neg (by omega)]
theorem snd_slice (S : Sit W n A X s) {value : Expr} {lo hi : Option Expr} {sp : Pos} {vo vl vu : Value} {o l u : PV} (ro : Rep W s.heap X vo o) (rl : Rep W s.heap X vl l) (ru : Rep W s.heap X vu u) : sliceP o l u ≠ .stuck ->
    wpAny (model W.prog W.w) A (subscriptTail value (.Slice lo hi none sp) vo (.ref s.heap.objs.size)) (Post W s (RV W X) (sliceP o l u)) E { s with heap := s.heap.push { cls := .type "slice", data := .fields #[vl, vu, .none] } } := by
  intro hne
  obtain ⟨kl, hkl, pl, zl⟩ := partP_ok rl (bind_ne hne)
  obtain ⟨ku, hku, pu, zu⟩ : ∃ k, partP u = .ok k /\ IsPart vu k /\ (∀ x, k = some x -> 0 <= x) := partP_ok ru (by
    unfold sliceP at hne
    rw [hkl] at hne
    exact bind_ne hne)
  have e0 : sliceP o l u = sliceK o kl ku := by unfold sliceP; rw [hkl, hku]; rfl
  rw [e0] at hne ⊢
  clear e0 hkl hku
  have st : Step W NoA s { s with heap := s.heap.push { cls := .type "slice", data := .fields #[vl, vu, .none] } } := Step.push S.base
  have hsl := Heap.IsSliceOf.new s.heap vl vu .none
  induction o using PV.casesOn with
  | list xs =>
    refine if_ne (P := fun z => wpAny _ A _ (Post W s (RV W X) z) E _) (fun hc => ?_) hne
    obtain ⟨la, lo', lvs, ln, rfl, e1, c1, d1, x1, z1, r1⟩ := ro.isList
    have hl : s.heap.IsList la lvs.toArray := ⟨_, e1, c1, _, d1⟩
    have hl' : (s.heap.push { cls := .type "slice", data := .fields #[vl, vu, .none] }).IsList la lvs.toArray := ⟨_, Heap.get?_push_of_some _ e1, c1, _, d1⟩
    have e2 : slicePick lvs.toArray kl ku none = (kms_pick lvs kl ku).toArray := kms_pick_eq lvs.toArray kl ku
    refine tail_any (T := "list") (ops := [.ref s.heap.objs.size, _]) hl'.typeIs slot_list_getitem.lookup (wpAny_getItem_list_slice hl' hsl pl pu .none nofun ?_ (by simp only [List.size_toArray]; rw [r1.length, sizeLine_eq]; omega)) rfl
    rw [e2]
    have st2 : Step W NoA { s with heap := s.heap.push { cls := .type "slice", data := .fields #[vl, vu, .none] } } _ := Step.push (o := { cls := .type "list", data := .seq (kms_pick lvs kl ku).toArray }) (tk := s.toks) st.base
    exact ⟨_, rfl, .list (Heap.get?_push_size _ rfl) rfl rfl (fun q => Nat.lt_irrefl _ (Nat.lt_of_lt_of_le (S.priv _ q) (by show _ <= (s.heap.push _).objs.size; rw [Heap.size_push]; omega))) rfl (((r1.cut kl ku).step st).step st2), st.trans st2⟩
  | bytes xs =>
    refine if_ne (P := fun z => wpAny _ A _ (Post W s (RV W X) z) E _) (fun hc => ?_) hne
    obtain ⟨t, rfl⟩ := ro.isBytes
    refine tail_any (T := "bytes") (ops := [.ref s.heap.objs.size, _]) (typeIs_bytes _ _ _) FB.slot_bytes_getitem.lookup (getItem_meets (typeIs_bytes _ _ _) (by decide) FB.slot_bytes_getitem FB.entry_bytes_getitem (FB.args_bytes_getitem_2 _ _) (KBc.meets_slice2 _ _ _ pl pu)
      ⟨hsl, Nat.le_trans (KBc.size_picked_le _ _ _) (by simp only [List.size_toArray]; rw [sizeLine_eq]; omega), fun t' k => ?_⟩) rfl
    rw [KBc.picked_eq]
    simp only [List.size_toArray]
    rw [clip_lo _ _ zl, clip_hi _ _ zu]
    exact ⟨_, rfl, .bytes _ _, st.trans (Step.toks st.base)⟩
  | str x =>
    refine if_ne (P := fun z => wpAny _ A _ (Post W s (RV W X) z) E _) (fun hc => ?_) hne
    obtain ⟨t, rfl⟩ := ro.isStr
    obtain ⟨ql, rfl, hql⟩ := part_value pl
    obtain ⟨qu, rfl, hqu⟩ := part_value pu
    refine tail_any (T := "str") (ops := [.ref s.heap.objs.size, _]) (typeIs_str _ _ _) F.slot_str_getitem.lookup (wpAny_getItem_str_slice (l := ql) (u := qu) (st := none) ⟨_, Heap.get?_push_size _ rfl, rfl, rfl⟩ rfl ?_) rfl
    unfold sliceMade strCut slicePicked
    rw [hql, hqu]
    simp only [Option.map_none, Option.getD_none, beq_self_eq_true, Bool.true_and]
    unfold strCut at hc
    split
    · exact ⟨_, rfl, .str _ _, st⟩
    · rename_i hno
      rw [if_neg hno] at hc
      exact ⟨by rw [sizeLine_eq]; omega, _, rfl, .str _ _, st.trans (Step.toks st.base)⟩
  | _ => exact (hne rfl).elim
theorem snd_evOpt (SE : SndE W n J) (H : Here W n A X sc σ env s) {e : Option Expr} (hne : evOpt J sc σ e ≠ .stuck) : Ev W A X s (evalPart e env) (evOpt J sc σ e) := by
  induction e using Option.casesOn with
  | none => exact wpAny_pure ⟨_, rfl, .none, Step.refl H.S.base⟩
  | some e => exact SE.at H hne
theorem snd_Subscript (SE : SndE W n J) (H : Here W n A X sc σ env s) {o sl : Expr} {pos : Pos} (hne : evE G J sc σ (.Subscript o sl pos) ≠ .stuck) :
    Ev W A X s (eval (.Subscript o sl pos) env) (evE G J sc σ (.Subscript o sl pos)) := by
  have e0 : evE G J sc σ (.Subscript o sl pos) = subP J sc σ o sl := rfl
  rw [e0] at hne ⊢
  have plain : isSlice sl = false -> subP J sc σ o sl = (J.e sc σ o).bind fun v => (J.e sc σ sl).bind fun k => itemP v k := fun h => by
    induction sl using PySem.Expr.casesOn with
    | Slice => exact nomatch h
    | _ => rfl
  cases hs : isSlice sl with
  | false =>
    rw [plain hs] at hne ⊢
    refine Subscript_ (then_ hne (SE.at H) fun va a s1 ra t1 hk1 c1 => ?_)
    rw [c1]
    refine thenB t1 hk1 (SE.at (H.step t1)) fun vb b s2 rb' t2 t02 hk2 c2 => ?_
    rw [c2]
    exact rb t02 (snd_item (H.step t02).S hs (ra.step t2) rb' hk2)
  | true =>
    induction sl using PySem.Expr.casesOn with
    | Slice lo hi st p =>
      induction st using Option.casesOn with
      | some _ => exact (hne rfl).elim
      | none =>
        have e1 : subP J sc σ o (.Slice lo hi none p) = (J.e sc σ o).bind fun v => (evOpt J sc σ lo).bind fun l => (evOpt J sc σ hi).bind fun h => sliceP v l h := rfl
        rw [e1] at hne ⊢
        refine Subscript_ (then_ hne (SE.at H) fun va a s1 ra t1 hk1 c1 => ?_)
        rw [c1]
        refine wpAny_Slice (thenB t1 hk1 (snd_evOpt SE (H.step t1)) fun vl l s2 rl t2 t02 hk2 c2 => ?_)
        rw [c2]
        refine thenB t02 hk2 (snd_evOpt SE (H.step t02)) fun vu u s3 ru t3 t03 hk3 c3 => ?_
        rw [c3]
        refine wpAny_pure ?_
        exact wpAny_mono (snd_slice (E := Epost W X s (sliceP a l u)) (H.step t03).S ((ra.step t2).step t3) (rl.step t3) ru hk3) (fun _ _ q => Post.back t03 q) fun _ _ q => q
    | _ => exact nomatch hs
theorem base_null {o : Expr} {name : Str} {whole : Sem Value} (h : isNull o = false) : attributeBase o name env whole = whole := by
  induction o using PySem.Expr.casesOn with
  | Call fn args kws p => induction fn using PySem.Expr.casesOn with
    | Name f q => induction args using List.casesOn with
      | nil => induction kws using List.casesOn with
        | nil => exact nomatch h
        | cons _ _ => rfl
      | cons _ _ => rfl
    | _ => rfl
  | _ => rfl
theorem attrP_err {a : PV} {name : Str} {p : PV} (h : attrP a name = .err p) : False := by
  induction a using PV.casesOn with
  | ord c d s o i m =>
    revert h
    unfold attrP
    dsimp only
    (repeat' split) <;> exact nofun
  | _ => exact nomatch h
theorem snd_Attribute (Y : Hy W G n) (SE : SndE W n J) (H : Here W n A X sc σ env s) {o : Expr} {name : Str} {pos : Pos} (hne : evE G J sc σ (.Attribute o name pos) ≠ .stuck) :
    Ev W A X s (eval (.Attribute o name pos) env) (evE G J sc σ (.Attribute o name pos)) := by
  have e0 : evE G J sc σ (.Attribute o name pos) = if isNull o then .stuck else (J.e sc σ o).bind fun v => attrP v name := rfl
  rw [e0] at hne ⊢
  cases hn : isNull o with
  | true => rw [hn] at hne; exact (hne rfl).elim
  | false =>
    rw [hn] at hne
    simp only [Bool.false_eq_true, if_false] at hne ⊢
    rw [arm_eval_Attribute, base_null hn]
    refine wpAny_bind (then_ hne (SE.at H) fun va a s1 ra t1 hk1 c1 => wpAny_bind (wpAny_standAt (wpAny_bind (wpAny_holding ?_))))
    rw [c1]
    cases hq : attrP a name with
    | stuck => exact (hk1 hq).elim
    | err p => exact (attrP_err hq).elim
    | ok q =>
      refine wpAny_mono (Y.attr A X s1 va a name q true _ (H.step t1).S ra hq) (fun r s2 q2 => wpAny_bind (wpAny_letTemporaryGo (wpAny_pure (Post.back t1 q2)))) fun _ _ q => q
theorem starEach_any (env : Env) (pos : Pos) {args : List Expr} (h : args.any isStar = false) : (backTo pos (starEach args env)).any (·.1) = false := by
  induction args with
  | nil => rfl
  | cons e r ih =>
    rw [List.any_cons, Bool.or_eq_false_iff] at h
    rw [star_cons h.1]
    exact ih h.2
theorem evalArgs_any {f : Value} {pos : Pos} {args : List Expr} {Q : Args -> Shared -> Prop} {M : Model} (h0 : args.any isStar = false)
    (h : wpAny M A (spliced (backTo pos (starEach args env))) (fun vs s' => Q ⟨vs, []⟩ s') E s) : wpAny M A (evalArgs f true (backTo pos (starEach args env)) []) Q E s := by
  induction args using List.casesOn with
  | nil =>
    show wpAny M A (evalArgs f true [] []) Q E s
    unfold evalArgs
    refine wpAny_bind (wpAny_mono h (fun vs s' q => wpAny_bind (wpAny_pure (wpAny_holding (wpAny_bind (wpAny_pure (wpAny_bind (wpAny_pure (wpAny_pure q)))))))) fun _ _ x => x)
  | cons e r =>
    rw [List.any_cons, Bool.or_eq_false_iff] at h0
    have he := star_cons (env := env) (r := r) h0.1
    rw [he] at h ⊢
    exact evalArgs_plain h
theorem keeper_of {fv : Value} (kp : Keeper1 W fv) (h : Heap) (q : W.K.In h) : ∃ k, (k = Keeper.frame \/ k = Keeper.machine \/ k = Keeper.boundFrame) /\ Looks (model W.prog W.w) h (keeperOf fv) k := by
  rcases kp with z | z
  · refine ⟨.machine, .inr (.inl rfl), ?_⟩
    unfold keeperOf
    induction fv using Value.casesOn with
    | ref a => exact ((z _) rfl).elim
    | _ => exact Looks.now
  · exact keeps_K z h q
theorem snd_call (ok : W.Ok) (SE : SndE W n J) (H : Here W n A X sc σ env s) {fv : Value} {F : List PV -> Out PV} {args : List Expr} {pos : Pos} (FO : FnOK W n fv F) (h0 : args.any isStar = false) (hne : (evList J sc σ args).bind F ≠ .stuck) :
    Ev W A X s (callWith pos fv [] (backTo pos (starEach args env)) (backToKw pos (keywordEach [] env))) ((evList J sc σ args).bind F) := by
  refine callWith_of (P := W.K.In) (by rw [starEach_any env pos h0]; rfl) (keeper_of FO.kp) (evalArgs_any h0 (then_ hne (snd_evList SE args s H) fun va a s1 ra t1 hk1 c1 => ⟨ok.inK t1.base, ?_⟩))
  rw [c1]
  exact rb t1 (FO.run A X s1 va a (H.step t1).S ra hk1)
end
section
variable {W : Wd} {G : Gl} {n : Nat} {J : I} {sc : Scope} {σ : Vars} {env : Env} {A : Around} {X : Addr -> Prop} {s s' : Shared} {E : Value -> Shared -> Prop}
theorem meth_any {M : Model} {o : Expr} {name : Str} {apos pos : Pos} {args : List Expr} {Q : Value -> Shared -> Prop}
    (hbase : isNull o = false) (hline : (apos.endLine == pos.line) = true) (hs : args.any isStar = false) (hn : args.length < 30)
    (h : wpAny M A (eval o env) (fun ov s₁ => wpAny M A (getMethod ov name (do return (<- importBound o env).getD true)) (fun fx s₂ =>
      wpAny M A (callWith pos fx.1 fx.2 (backTo pos (starEach args env)) (backToKw pos (keywordEach [] env))) Q E s₂) E s₁) E s) :
    wpAny M A (eval (.Call (.Attribute o name apos) args [] pos) env) Q E s := by
  rw [arm_eval_Call, base_null hbase]
  refine wpAny_bind (wpAny_mono h (fun ov s₁ h₁ => wpAny_bind (wpAny_standAt ?_)) fun _ _ e => e)
  have hform : methodCallForm (args.length + ([] : List Keyword).length) (backTo pos (starEach args env)) (backToKw pos (keywordEach [] env)) = true := by
    unfold methodCallForm
    have h1 : (backTo pos (starEach args env)).all (fun x => !x.1) = true := by
      rw [List.all_eq_true]
      intro x hx
      have := List.any_eq_false.mp (starEach_any env pos hs) x hx
      simpa using this
    rw [h1]
    have h2 : (backToKw pos (keywordEach [] env)) = [] := rfl
    rw [h2]
    simp
    omega
  unfold methodCall
  rw [hform]
  have hpos : methodCallPos true o env apos pos = pure pos := by unfold methodCallPos; simp [hline]
  refine wpAny_bind (wpAny_holding ?_)
  exact wpAny_mono h₁ (fun fx s₂ q => wpAny_bind (wpAny_of_eq hpos q)) fun _ _ e => e
theorem callWith_fn {M : Model} {fv : Value} {first : List Value} {args : List Expr} {pos : Pos} {P : Heap -> Prop} {Q : Value -> Shared -> Prop} (h0 : args.any isStar = false)
    (hk : ∀ h, P h -> ∃ k, (k = Keeper.frame \/ k = Keeper.machine \/ k = Keeper.boundFrame) /\ Looks M h (keeperOf fv) k)
    (h : wpAny M A (spliced (backTo pos (starEach args env))) (fun vs s' => P s'.heap /\ wpAny M A (call fv (first ++ vs)) Q E s') E s) :
    wpAny M A (callWith pos fv first (backTo pos (starEach args env)) (backToKw pos (keywordEach [] env))) Q E s :=
  callWith_of (P := P) (by rw [starEach_any env pos h0]; rfl) hk (evalArgs_any h0 h)
theorem keeper_builtin {M : Model} {id : String} (h : Heap) (_ : True) : ∃ k, (k = Keeper.frame \/ k = Keeper.machine \/ k = Keeper.boundFrame) /\ Looks M h (keeperOf (.builtin id)) k :=
  ⟨.machine, .inr (.inl rfl), Looks.now⟩
noncomputable def isNoneV (v : Value) : Bool := match v with
  | .none => true
  | _ => false
theorem none_eqs (hu : A.units < cLine) {xs : List PV} {vs : List Value} (r : Reps W s.heap X vs xs) : xs.all noneOrTup = true -> ∀ y, y ∈ vs -> SeqAt.EqAt A s y .none (isNoneV y) :=
  r.ind (C := fun vs xs => xs.all noneOrTup = true -> ∀ y, y ∈ vs -> SeqAt.EqAt A s y .none (isNoneV y)) (fun _ _ hy => nomatch hy) fun {v vs x xs} r _ ih h y hy => by
    rw [List.all_cons, Bool.and_eq_true] at h
    rcases List.mem_cons.mp hy with rfl | hy
    · induction x using PV.casesOn with
      | none => rw [r.isNone]; exact SeqAt.EqAt.same _
      | tuple l =>
        obtain ⟨a, o, us, n, rfl, e1, c1, d1, x1, r1⟩ := r.isTuple
        exact SeqAt.EqAt.tuple_none ⟨_, e1, c1, _, d1⟩ hu
      | _ => exact nomatch h.1
    · exact ih h.2 y hy
theorem idxNone_spec {xs : List PV} {vs : List Value} (r : Reps W s.heap X vs xs) : ∀ {j : Nat}, idxNone xs = some j ->
    ∃ hj : j < vs.length, isNoneV vs[j] = true /\ ∀ m (hm : m < vs.length), m < j -> isNoneV vs[m] = false :=
  r.ind (C := fun vs xs => ∀ {j : Nat}, idxNone xs = some j -> ∃ hj : j < vs.length, isNoneV vs[j] = true /\ ∀ m (hm : m < vs.length), m < j -> isNoneV vs[m] = false) (fun e => nomatch e) fun {v vs x xs} r _ ih j e => by
    induction x using PV.casesOn with
    | none =>
      obtain rfl : 0 = j := Option.some.inj e
      exact ⟨Nat.succ_pos _, by rw [r.isNone]; rfl, fun m hm hl => nomatch hl⟩
    | tuple l =>
      obtain ⟨k, hk, rfl⟩ := Option.map_eq_some_iff.mp (show (idxNone xs).map (· + 1) = some j from e)
      obtain ⟨hj, h1, h2⟩ := ih hk
      refine ⟨Nat.succ_lt_succ hj, h1, fun m hm hl => ?_⟩
      induction m using Nat.casesOn with
      | zero =>
        obtain ⟨a, o, us, n, rfl, _⟩ := r.isTuple
        rfl
      | succ m => exact h2 m (Nat.lt_of_succ_lt_succ hm) (Nat.lt_of_succ_lt_succ hl)
    | _ => exact nomatch e
theorem ite_is {α : Type} {p : Prop} [Decidable p] {x : Out α} (h : (if p then x else .stuck) ≠ .stuck) : p := by
  by_cases q : p
  · exact q
  · exact (h (if_neg q)).elim
theorem snd_meth0 (Y : Hy W G n) (S : Sit W n A X s) {v : Value} {p : PV} {name : Str} {pos : Pos} {pl : Sem Bool} (rv : Rep W s.heap X v p) : methP p name [] ≠ .stuck ->
    wpAny (model W.prog W.w) A (getMethod v name pl) (fun fx s₂ => wpAny (model W.prog W.w) A (callWith pos fx.1 fx.2 (backTo pos (starEach [] env)) (backToKw pos (keywordEach [] env))) (Post W s (RV W X) (methP p name [])) (Epost W X s (methP p name [])) s₂) (Epost W X s (methP p name [])) s := by
  intro hne
  induction p using PV.casesOn with
  | str x =>
    have hc := ite_is (show (if name == "strip" /\ x.length <= 1000 then Out.ok (PV.str (Txt.strip x)) else .stuck) ≠ .stuck from hne)
    have e0 : methP (.str x) name [] = .ok (.str (Txt.strip x)) := if_pos hc
    rw [e0]
    obtain rfl : name = "strip" := eq_of_beq hc.1
    obtain ⟨t, rfl⟩ := rv.isStr
    obtain ⟨T, id, pa, slot, hty, hT, hd, h⟩ := SB.strip (prog := W.prog) (w := W.w) (A := A) (E := Epost W X s (Out.ok (PV.str (Txt.strip x)))) (s := s) (x := x) (t := t) (pos := pos) (Q := Post W s (RV W X) (Out.ok (PV.str (Txt.strip x)))) (fun t' k => ⟨_, rfl, Rep.str _ _, Step.toks S.base⟩) (by rw [sizeLine_eq]; omega)
    exact getMethod_builtin hT pa slot hty hd h
  | ord c d r o i m =>
    have hc := ite_is (show (if (name == "told") = true then toldP [.ord c d r o i m] else .stuck) ≠ .stuck from hne)
    have e0 : methP (.ord c d r o i m) name [] = toldP [.ord c d r o i m] := if_pos hc
    rw [e0] at hne ⊢
    obtain rfl : name = "told" := eq_of_beq hc
    obtain ⟨fv, FO, hm⟩ := Y.told
    refine wpAny_mono (hm A X s v c d r o i m pl (fun _ _ => False) S rv) (fun fx s2 q => ?_) fun _ _ q => q.elim
    obtain ⟨rfl, t⟩ := q
    refine callWith_fn (P := W.K.In) rfl (keeper_of FO.kp) (wpAny_items_nil ⟨Y.ok.inK t.base, ?_⟩)
    exact rb t (FO.run A X s2 [v] [.ord c d r o i m] (S.step t) (.cons (rv.step t) .nil) hne)
  | _ => exact (hne rfl).elim
theorem snd_index (S : Sit W n A X s) {va u : Value} {xs : List PV} {q : PV} (ra : Rep W s.heap X va (.list xs)) (ru : Rep W s.heap X u q) : methP (.list xs) "index" [q] ≠ .stuck ->
    wpAny (model W.prog W.w) A (call (.builtin "list.index") [va, u]) (Post W s (RV W X) (methP (.list xs) "index" [q])) E s := by
  have hu : A.in1.units < cLine := by have := S.room.2; show A.units + 1 < 9900; omega
  intro hne
  have hne : onTrue (isNoneP q) (if ("index" : Str) == "index" /\ xs.length <= 1000 /\ xs.all noneOrTup = true then (outOpt (idxNone xs)).bind fun k => Out.ok (PV.int k) else .stuck) ≠ .stuck := hne
  obtain rfl : q = .none := by
    have h := onTrue_is hne
    induction q using PV.casesOn with
    | none => rfl
    | _ => exact nomatch h
  have hc := ite_is (show (if ("index" : Str) == "index" /\ xs.length <= 1000 /\ xs.all noneOrTup = true then (outOpt (idxNone xs)).bind fun k => Out.ok (PV.int k) else .stuck) ≠ .stuck from hne)
  have e0 : methP (.list xs) "index" [.none] = (outOpt (idxNone xs)).bind fun k => Out.ok (PV.int k) := if_pos hc
  have hne : (outOpt (idxNone xs)).bind (fun k => Out.ok (PV.int k)) ≠ .stuck := fun z => hne ((if_pos hc).trans z)
  obtain ⟨j, hj⟩ := outOpt_ne (bind_ne hne)
  rw [e0, hj]
  rw [ru.isNone]
  obtain ⟨l, o, vs, k, rfl, e1, c1, d1, x1, z1, r1⟩ := ra.isList
  obtain ⟨cls, dd, data, sl⟩ := o
  have c1 : cls = .type "list" := c1
  have d1 : data = .seq vs.toArray k := d1
  have z1 : dd = .none := z1
  subst c1 d1 z1
  obtain ⟨hlt, g1, g2⟩ := idxNone_spec r1 hj
  have hb : vs.length <= 1000 := by rw [r1.length]; exact hc.2.1
  exact call_meets PySem.F.slot_list_index ⟨_, e1, rfl⟩ PySem.F.entry_list_index (PySem.F.args_list_index_2 _ _)
    (SeqAt.list_indexAt l vs.toArray k none sl .none isNoneV j (by simpa using hlt) (by omega) (by simpa using g1) (fun m hm hl => by simpa using g2 m (by simpa using hm) hl))
    ⟨e1, fun y hy => none_eqs hu r1 hc.2.2 y (by simpa using hy), ⟨_, rfl, .int _ _, Step.toks S.base⟩⟩
theorem snd_methCall (Y : Hy W G n) (SE : SndE W n J) (H : Here W n A X sc σ env s) {o : Expr} {name : Str} {ap pos : Pos} {args : List Expr} (hn : isNull o = false) (hl : (ap.endLine == pos.line) = true) (hne : methCallP J sc σ o name args ≠ .stuck) :
    Ev W A X s (eval (.Call (.Attribute o name ap) args [] pos) env) (methCallP J sc σ o name args) := by
  induction args using List.casesOn with
  | nil =>
    have e0 : methCallP J sc σ o name [] = (J.e sc σ o).bind fun v => methP v name [] := rfl
    rw [e0] at hne ⊢
    refine meth_any hn hl rfl (by decide) (then_ hne (SE.at H) fun va a s1 ra t1 hk1 c1 => ?_)
    rw [c1]
    exact wpAny_mono (snd_meth0 (pos := pos) Y (H.step t1).S ra hk1) (fun fx s2 q => wpAny_mono q (fun _ _ z => Post.back t1 z) fun _ _ z => Epost.back t1 z) fun _ _ q => Epost.back t1 q
  | cons e r =>
    obtain rfl := onNil_is hne
    cases hs : isStar e with
    | true => exact (hne (if_pos hs)).elim
    | false =>
      have e0 : methCallP J sc σ o name [e] = (J.e sc σ o).bind fun v => if isIdx v name then (J.e sc σ e).bind fun u => methP v name [u] else .stuck := if_neg (by rw [hs]; exact Bool.false_ne_true)
      rw [e0] at hne ⊢
      refine meth_any hn hl (by rw [List.any_cons, hs]; rfl) (show 1 < 30 by decide) (then_ hne (SE.at H) fun va a s1 ra t1 hk1 c1 => ?_)
      rw [c1]
      have hi := ite_is hk1
      rw [if_pos hi] at hk1 ⊢
      induction a using PV.casesOn with
      | list xs =>
        obtain rfl : name = "index" := eq_of_beq hi
        obtain ⟨l, o, vs, k, rfl, e1, c1, d1, x1, z1, r1⟩ := ra.isList
        have hL : s1.heap.IsList l vs.toArray := ⟨_, e1, c1, _, d1⟩
        refine getMethod_builtin hL.typeIs PySem.F.plainAttrs_list PySem.F.slot_list_index PySem.F.type_list_index (fun a q => Value.ref.inj q ▸ ⟨_, e1, z1⟩) ?_
        refine callWith_fn (P := fun _ => True) (by rw [List.any_cons, hs]; rfl) keeper_builtin ?_
        refine wpAny_items_cons (thenB t1 hk1 (SE.at (H.step t1)) fun vu u s2 ru t2 t02 hk2 c2 => wpAny_items_nil ⟨trivial, ?_⟩) (star_cons hs)
        rw [c2]
        exact rb t02 (snd_index (H.step t02).S (ra.step t2) ru hk2)
      | _ => exact nomatch hi
end
theorem runs_size {M : Model} {Γ : Ctx} {p : Pos} {t : Sem Fin} {fs : List Frame} {s s' : Shared} {e : End} (h : Runs M Γ p t fs s e s') : s.heap.objs.size <= s'.heap.objs.size := by
  induction h <;> (try simp only [Shared.setGen, Heap.size_push, Heap.size_after_update] at *) <;> omega
theorem returns_size {M : Model} {Γ : Ctx} {p : Pos} {s s' : Shared} {r : Result} (h : Returns M Γ p s r s') : s.heap.objs.size <= s'.heap.objs.size := runs_size h
theorem wakes_size {M : Model} {Γ : Ctx} {p : Pos} {g : Nat} {r : Resume} {s s' : Shared} {res : GenResult} (h : Wakes M Γ p g r s res s') : s.heap.objs.size <= s'.heap.objs.size := by
  unfold Wakes at h
  split at h
  · exact h.elim
  · split at h
    · obtain ⟨e₁, s₁, hr, _, _, rfl⟩ := h; exact (runs_size hr : (s.setGen g .running).heap.objs.size <= s₁.heap.objs.size)
    · rw [h.2]; exact Nat.le_refl _
    · rw [h.2]; exact Nat.le_refl _
  · obtain ⟨e₁, s₁, hr, _, _, rfl⟩ := h; exact (runs_size hr : (s.setGen g .running).heap.objs.size <= s₁.heap.objs.size)
  · rw [h.2]; exact Nat.le_refl _
  · rw [h.2]; exact Nat.le_refl _
theorem wp_size {α : Type} (M : Model) (Γ : Ctx) (n : Nat) (t : Sem α) : ∀ (Q : α -> Pos -> Shared -> Prop) (E : Value -> Pos -> Shared -> Prop) (p : Pos) (s : Shared), n <= s.heap.objs.size -> Sem.wp M Γ t Q E p s ->
    Sem.wp M Γ t (fun a p' s' => n <= s'.heap.objs.size /\ Q a p' s') (fun e p' s' => n <= s'.heap.objs.size /\ E e p' s') p s := by
  induction t with
  | pure a => intro Q E p s hn h; exact ⟨hn, h⟩
  | raise e => intro Q E p s hn h; exact ⟨hn, h⟩
  | unsupported _ => intro Q E p s _ h; exact h
  | finish _ => intro Q E p s _ h; exact h
  | rule _ k ih => intro Q E p s hn h; exact ih () Q E p s hn h
  | «at» p' k ih => intro Q E p s hn h; exact ih () Q E p' s hn h
  | load a _ k ih => intro Q E p s hn h; obtain ⟨o, ho, h⟩ := h; exact ⟨o, ho, ih o Q E p s hn h⟩
  | update a _ f k ih => intro Q E p s hn h; exact ⟨h.1, ih () Q E p _ (by simpa only [Heap.size_after_update] using hn) h.2⟩
  | loadIfAlive a k ih => intro Q E p s hn h; exact ih _ Q E p s hn h
  | point _ k ih => intro Q E p s hn h; exact ih () Q E p s hn h
  | register _ _ => intro Q E p s _ h; exact h
  | alloc o k ih => intro Q E p s hn h; exact ih _ Q E p _ (by simp only [Heap.size_push]; omega) h
  | fresh k ih => intro Q E p s hn h; exact ih _ Q E p _ hn h
  | ask k ih => intro Q E p s hn h; exact ih _ Q E p s hn h
  | choose src m k ih => intro Q E p s hn h; exact ⟨h.1, ih _ Q E p _ hn h.2⟩
  | os q _ k ih => intro Q E p s hn h; exact ih _ Q E p _ hn h
  | call c hd _ _ k ih => intro Q E p s hn h; obtain ⟨r, s', hr, h⟩ := h; exact ⟨r, s', hr, ih r Q E p s' (Nat.le_trans hn (returns_size hr)) h⟩
  | handled own k ih => intro Q E p s hn h; exact ih _ Q E p s hn h
  | genState g k ih => intro Q E p s hn h; obtain ⟨st, hs, h⟩ := h; exact ⟨st, hs, ih _ Q E p s hn h⟩
  | newGen c k ih => intro Q E p s hn h; exact ih _ Q E p _ hn h
  | resume g r _ k ih => intro Q E p s hn h; obtain ⟨res, s', hw, h⟩ := h; exact ⟨res, s', hw, ih res Q E p s' (Nat.le_trans hn (wakes_size hw)) h⟩
  | yield _ _ _ _ => intro Q E p s _ h; exact h
  | stack k ih => intro Q E p s hn h; exact ih _ Q E p s hn h
  | fork _ _ => intro Q E p s _ h; exact h
  | thread k ih => intro Q E p s hn h; exact ih _ Q E p s hn h
  | await _ _ _ _ _ => intro Q E p s _ h; exact h
section
variable {α : Type} {M : Model} {A : Around} {s : Shared}
theorem size_of {t : Sem α} {Q : α -> Shared -> Prop} {E : Value -> Shared -> Prop} {n : Nat} (hn : n <= s.heap.objs.size) (h : wpAny M A t Q E s) :
    wpAny M A t (fun a s' => n <= s'.heap.objs.size /\ Q a s') (fun e s' => n <= s'.heap.objs.size /\ E e s') s :=
  fun Γ p hΓ => wp_size M Γ n t _ _ p s hn (h Γ p hΓ)
theorem with_size {t : Sem α} {Q : α -> Shared -> Prop} {E : Value -> Shared -> Prop}
    (h : wpAny M A t (fun a s' => s.heap.objs.size <= s'.heap.objs.size -> Q a s') (fun e s' => s.heap.objs.size <= s'.heap.objs.size -> E e s') s) : wpAny M A t Q E s :=
  wpAny_mono (size_of (Nat.le_refl _) h) (fun _ _ x => x.2 x.1) (fun _ _ x => x.2 x.1)
end
section
variable {W : Wd} {G : Gl} {n : Nat} {J : I} {sc : Scope} {σ : Vars} {env : Env} {A : Around} {X : Addr -> Prop} {s s' : Shared} {E : Value -> Shared -> Prop}
theorem Step.ext {h' : Heap} {tk : Nat} {a : Addr} {oa : Obj} (B : Base W s.heap) (ea : s.heap.get? a = some oa) (ha : W.hB.objs.size <= a) (hc : oa.cls ≠ .none) (hcc : oa.cls ≠ .type "code") (hcf : oa.cls ≠ .type "frame") (k : Heap.ExtBut a s.heap h') (hs : s.heap.objs.size <= h'.objs.size) :
    Step W (fun b => b = a) s { s with heap := h', toks := tk } :=
  ⟨KeepsBut.of_extBut k rfl, B.turn ea ha hc hcc k hs, hs, rfl, rfl,
    fun b o es n e c d => ⟨o, es, n, k b o (fun q => by rw [q, ea] at e; cases e; exact hcf c) e, c, d⟩⟩
structure Src (W : Wd) (A : Around) (I : Addr) (items : List PV) (X : Addr -> Prop) (St : Nat -> Heap -> Prop) : Prop where
  keepR : ∀ {i : Nat} {h h' : Heap}, St i h -> (∀ v p, Rep W h X v p -> Rep W h' X v p) -> (∀ o, h.get? I = some o -> o.cls ≠ .none -> o.cls ≠ .type "frame" -> h'.get? I = some o) -> St i h'
  item : ∀ {i : Nat} {s : Shared} {p : PV} {Q : Option Value -> Shared -> Prop} {E : Value -> Shared -> Prop}, St i s.heap -> Base W s.heap -> items[i]? = some p ->
    (∀ v s', St (i + 1) s'.heap -> Step W (fun a => a = I) s s' -> Rep W s'.heap X v p -> Q (some v) s') -> wpAny (model W.prog W.w) A (pyNext (.ref I)) Q E s
  done : ∀ {s : Shared} {Q : Option Value -> Shared -> Prop} {E : Value -> Shared -> Prop}, St items.length s.heap -> Base W s.heap ->
    (∀ s', Step W (fun a => a = I) s s' -> Q none s') -> wpAny (model W.prog W.w) A (pyNext (.ref I)) Q E s
  self : ∀ {i : Nat} {s : Shared} {Q : Value -> Shared -> Prop} {E : Value -> Shared -> Prop}, St i s.heap -> Q (.ref I) s -> wpAny (model W.prog W.w) A (pyIter (.ref I)) Q E s
  obj : ∀ {i : Nat} {h : Heap}, St i h -> ∃ o, h.get? I = some o /\ (∀ v, o.data ≠ .cell v) /\ o.cls ≠ .none /\ o.cls ≠ .type "frame"
theorem Src.keep {I : Addr} {items : List PV} {St : Nat -> Heap -> Prop} (S : Src W A I items X St) {i : Nat} {h h' : Heap} {Y : Addr -> Prop} (st : St i h) (k : KeepsBut Y h h') (hy : ∀ a, Y a -> X a /\ a ≠ I) : St i h' :=
  S.keepR st (fun v p r => r.keeps k fun a q => (hy a q).1) fun o e hn hf => k.get e (fun q => (hy _ q).2 rfl) hn hf
theorem Src.list (hh : A.handled = none) {I ax : Addr} {items : List PV} (hne : ax ≠ I) (hI : W.hB.objs.size <= I) (xI : X I) :
    Src W A I items X (fun i h => h.IsListIter I ax i /\ Rep W h X (.ref ax) (.list items)) where
  keepR := fun {i h h'} st hr hi => by
    obtain ⟨⟨o, ho, hc, hd⟩, r⟩ := st
    exact ⟨⟨o, hi o ho (by rw [hc]; exact nofun) (by rw [hc]; decide), hc, hd⟩, hr _ _ r⟩
  item := fun {i s p Q E} st B hp hQ => by
    obtain ⟨st1, r⟩ := st
    obtain ⟨ax', o1, vs, n1, ea, e1, c1, d1, x1, z1, r1⟩ := r.isList
    obtain rfl := Value.ref.inj ea
    obtain ⟨v, hv, rv⟩ := r1.get hp
    obtain ⟨oI, hoI, hcI, hdI⟩ := id st1
    refine wpAny_pyNext_list_item (x := v) st1 ⟨_, e1, c1, _, d1⟩ (by simpa using hv) fun h' hit' hs' => ?_
    have t : Step W (fun a => a = I) s { s with heap := h' } := Step.one B hoI hI (by rw [hcI]; exact nofun) (by rw [hcI]; decide) (by rw [hcI]; decide) hs'
    exact hQ v _ ⟨hit', r.keeps t.keeps fun a q => q ▸ xI⟩ t (rv.keeps t.keeps fun a q => q ▸ xI)
  done := fun {s Q E} st B hQ => by
    obtain ⟨st1, r⟩ := st
    obtain ⟨ax', o1, vs, n1, ea, e1, c1, d1, x1, z1, r1⟩ := r.isList
    obtain rfl := Value.ref.inj ea
    obtain ⟨oI, hoI, hcI, hdI⟩ := id st1
    refine with_size (wpAny_pyNext_list_end hh st1 ⟨_, e1, c1, _, d1⟩ (by simp [r1.length]) fun h' he' hs => ?_)
    exact hQ _ (Step.ext B hoI hI (by rw [hcI]; exact nofun) (by rw [hcI]; decide) (by rw [hcI]; decide) he' hs)
  self := fun st hQ => wpAny_pyIter_listiter st.1 hQ
  obj := fun ⟨⟨o, ho, hc, hd⟩, _⟩ => ⟨o, ho, fun v q => (by rw [hd] at q; cases q), by rw [hc]; exact nofun, by rw [hc]; decide⟩
theorem Src.range (hh : A.handled = none) {I : Addr} {N : Nat} (hI : W.hB.objs.size <= I) :
    Src W A I ((List.range N).map fun (k : Nat) => PV.int k) X (fun i h => IsRangeIter h I (0 + (i : Nat) * 1) ((N : Int) - (i : Nat)) 1) where
  keepR := fun {i h h'} st hr hi => hi _ st nofun (by show Value.type "range_iterator" ≠ _; decide)
  item := fun {i s p Q E} st B hp hQ => by
    have hlt : i < N := by
      have := (List.getElem?_eq_some_iff.mp hp).1
      simpa using this
    have hpp : p = .int i := by
      rw [List.getElem?_map, List.getElem?_range hlt] at hp
      cases hp; rfl
    subst hpp
    refine wpAny_pyNext_range_item st (by omega) fun h' hit' hs' => ?_
    have t : Step W (fun a => a = I) s { s with heap := h', toks := s.toks + 1 } := Step.one B st hI nofun (by show Value.type "range_iterator" ≠ _; decide) (by show Value.type "range_iterator" ≠ _; decide) hs'
    refine hQ _ _ ?_ t ?_
    · have e1 : (0 : Int) + ((i + 1 : Nat) : Int) * 1 = 0 + (i : Int) * 1 + 1 := by push_cast; omega
      have e2 : (N : Int) - ((i + 1 : Nat) : Int) = (N : Int) - (i : Int) - 1 := by push_cast; omega
      rw [e1, e2]; exact hit'
    · have e3 : (0 : Int) + (i : Int) * 1 = i := by omega
      rw [e3]; exact .int _ _
  done := fun {s Q E} st B hQ => by
    refine with_size (wpAny_pyNext_range_end hh st (by simp) fun h' he' hs => ?_)
    exact hQ _ (Step.ext B st hI nofun (by show Value.type "range_iterator" ≠ _; decide) (by show Value.type "range_iterator" ≠ _; decide) he' hs)
  self := fun st hQ => wpAny_pyIter_rangeiter st hQ
  obj := fun st => ⟨_, st, fun v q => (by cases q), nofun, by show Value.type "range_iterator" ≠ _; decide⟩
noncomputable def SrcAt (W : Wd) (A : Around) (X : Addr -> Prop) (s0 : Shared) (r : Out (List PV)) (it : Value) (s2 : Shared) : Prop :=
  ∃ items I, r = .ok items /\ items.length <= 1000 /\ it = .ref I /\ Step W NoA s0 s2 /\ s0.heap.objs.size <= I /\ I < s2.heap.objs.size /\
    ∀ X' : Addr -> Prop, X' I -> (∀ a, a < s2.heap.objs.size -> X' a -> X a \/ a = I) -> ∃ St, Src W A I items X' St /\ St 0 s2.heap
theorem keeper_type {M : Model} {T : String} (h : Heap) (_ : True) : ∃ k, (k = Keeper.frame \/ k = Keeper.machine \/ k = Keeper.boundFrame) /\ Looks M h (keeperOf (.type T)) k :=
  ⟨.machine, .inr (.inl rfl), Looks.now⟩
theorem topName_spec {f : Str} (h : topName sc σ f = true) : σ.lookup f = none /\ sc.names.lookup f = some .globalImplicit /\ (f == ("__debug__" : Str)) = false := by
  unfold topName at h
  simp only [Bool.and_eq_true, Option.isNone_iff_eq_none, beq_iff_eq, Bool.not_eq_true'] at h
  exact ⟨h.1.1, h.1.2, h.2⟩
theorem snd_iter (Y : Hy W G n) (SE : SndE W n J) (H : Here W n A X sc σ env s) {e : Expr} (hne : iterP J sc σ e ≠ .stuck) :
    wpAny (model W.prog W.w) A (eval e env) (fun xv s₁ => wpAny (model W.prog W.w) A (pyIter xv) (SrcAt W A X s (iterP J sc σ e)) (Epost W X s (iterP J sc σ e)) s₁) (Epost W X s (iterP J sc σ e)) s := by
  have plain : (J.e sc σ e).bind listP ≠ .stuck -> wpAny (model W.prog W.w) A (eval e env) (fun xv s₁ => wpAny (model W.prog W.w) A (pyIter xv) (SrcAt W A X s ((J.e sc σ e).bind listP)) (Epost W X s ((J.e sc σ e).bind listP)) s₁) (Epost W X s ((J.e sc σ e).bind listP)) s := by
    intro hne
    refine then_ hne (SE.at H) fun va a s1 ra t1 hk1 c1 => ?_
    rw [c1]
    obtain ⟨xs, rfl⟩ : ∃ xs, a = .list xs := by
      induction a using PV.casesOn with
      | list xs => exact ⟨xs, rfl⟩
      | _ => exact (hk1 rfl).elim
    have hc := ite_is (show (if xs.length <= 1000 then Out.ok xs else .stuck) ≠ .stuck from hk1)
    rw [show listP (.list xs) = .ok xs from if_pos hc]
    obtain ⟨ax, o, vs, k, rfl, e1, c1, d1, x1, z1, r1⟩ := ra.isList
    refine wpAny_pyIter_list ⟨_, e1, c1, _, d1⟩ ?_
    have t2 : Step W NoA s1 { s1 with heap := s1.heap.push { cls := .type "list_iterator", data := .fields #[.ref ax, .int 0 0] } } := Step.push t1.base
    refine ⟨xs, _, rfl, hc, rfl, t1.trans t2, t1.size, by show _ < (s1.heap.push _).objs.size; rw [Heap.size_push]; exact Nat.lt_succ_self _, fun X' xI hX => ⟨_, Src.list (X := X') (H.S.hand) (Nat.ne_of_lt (Heap.lt_size e1)) t1.base.size xI, ⟨_, Heap.get?_push_size _ rfl, rfl, rfl⟩, ?_⟩⟩
    refine (Rep.widen (fun a ha q => ?_) ra).step t2
    rcases hX a (by show _ < (s1.heap.push _).objs.size; rw [Heap.size_push]; exact Nat.lt_succ_of_lt ha) q with z | z
    · exact z
    · exact absurd z (Nat.ne_of_lt ha)
  cases hv : vCall e with
  | none =>
    have e0 : iterP J sc σ e = (J.e sc σ e).bind listP := by unfold iterP; rw [hv]
    rw [e0] at hne ⊢
    exact plain hne
  | some q =>
    obtain ⟨fn, args, kws, pos⟩ := q
    have e0 : iterP J sc σ e = rangeCallP J sc σ fn args kws := by unfold iterP; rw [hv]
    rw [e0] at hne ⊢
    clear plain
    obtain rfl := vCall_eq hv
    obtain ⟨f, hf⟩ := onSome_is hne
    obtain ⟨np, rfl⟩ := vName_eq hf
    have hne : onNil kws (only args fun a => if f == "range" /\ topName sc σ f /\ isStar a = false then (J.e sc σ a).bind rangeP else .stuck) ≠ .stuck := hne
    obtain rfl := onNil_is hne
    obtain ⟨a, rfl⟩ := only_is (show only args _ ≠ .stuck from hne)
    have hc := ite_is (show (if f == "range" /\ topName sc σ f /\ isStar a = false then (J.e sc σ a).bind rangeP else .stuck) ≠ .stuck from hne)
    have e1 : rangeCallP J sc σ (.Name f np) [a] [] = (J.e sc σ a).bind rangeP := if_pos hc
    have hn2 : (J.e sc σ a).bind rangeP ≠ .stuck := fun q => hne ((if_pos hc).trans q)
    show wpAny _ A _ (fun xv s₁ => wpAny _ A _ (SrcAt W A X s (rangeCallP J sc σ (.Name f np) [a] [])) (Epost W X s (rangeCallP J sc σ (.Name f np) [a] [])) s₁) (Epost W X s (rangeCallP J sc σ (.Name f np) [a] [])) s
    rw [e1]
    obtain ⟨g1, g2, g3⟩ := topName_spec hc.2.1
    obtain rfl : f = "range" := eq_of_beq hc.1
    refine wpAny_Call_ofName (wpAny_Name ?_ g3)
    refine loadName_glob Y.ok H.S.base H.O g2 Y.range ?_
    refine callWith_fn (P := fun _ => True) (by rw [List.any_cons, hc.2.2]; rfl) keeper_type ?_
    refine wpAny_items_cons (then_ hn2 (SE.at H) fun va a s1 ra t1 hk1 c1 => wpAny_items_nil ⟨trivial, ?_⟩) (star_cons hc.2.2)
    rw [c1]
    obtain ⟨N, rfl⟩ : ∃ N, a = .int N := by
      induction a using PV.casesOn with
      | int N => exact ⟨N, rfl⟩
      | _ => exact (hk1 rfl).elim
    have hN := ite_is (show (if 0 <= N /\ N <= 1000 then Out.ok ((List.range N.toNat).map fun (k : Nat) => PV.int k) else .stuck) ≠ .stuck from hk1)
    rw [show rangeP (.int N) = .ok ((List.range N.toNat).map fun (k : Nat) => PV.int k) from if_pos hN]
    obtain ⟨t, rfl⟩ := ra.isInt
    refine call_range_1 ?_
    refine wpAny_pyIter_range (IsRange.new ..) (small_one (by decide) (by decide) (by omega) (by omega)) ?_
    have hsz : Builtin.Range.rangeSize 0 N 1 = (N.toNat : Int) := by rw [rangeSize_one]; split <;> omega
    have t2 : Step W NoA s1 { s1 with heap := s1.heap.push { cls := .type "range", data := .fields #[.int 0 s1.toks, .int N t, .int 1 (s1.toks + 1)] }, toks := s1.toks + 1 + 1 } := Step.push t1.base
    have t3 : Step W NoA { s1 with heap := s1.heap.push { cls := .type "range", data := .fields #[.int 0 s1.toks, .int N t, .int 1 (s1.toks + 1)] }, toks := s1.toks + 1 + 1 } _ := Step.push (o := { cls := .type "range_iterator", data := .fields #[rawInt 0, rawInt (Builtin.Range.rangeSize 0 N 1), rawInt 1] }) (tk := s1.toks + 1 + 1) t2.base
    refine ⟨_, _, rfl, ?_, rfl, t1.trans (t2.trans t3), ?_, ?_, fun X' xI hX => ⟨_, Src.range (N := N.toNat) H.S.hand ?_, ?_⟩⟩
    · simp; omega
    · exact Nat.le_trans t1.size t2.size
    · exact Nat.lt_of_lt_of_le (Nat.lt_succ_self _) (Nat.le_of_eq (Heap.size_push ..).symm)
    · exact t2.base.size
    · have e1 : ((0 : Int) + ((0 : Nat) : Int) * 1) = 0 := by simp
      have e2 : ((N.toNat : Int) - ((0 : Nat) : Int)) = Builtin.Range.rangeSize 0 N 1 := by rw [hsz]; simp
      rw [e1, e2]
      exact Heap.get?_push_size _ rfl
end
theorem putName_data (name : Str) (hh : Int) (key v : Value) (o : Obj) {es : Array DictEntry} {ep : Nat} (hd : o.data = .dict es ep) : ∃ es' ep', o.putName name hh key v = { o with data := .dict es' ep' } := by
  obtain ⟨c, d, dt, sl⟩ := o
  subst hd
  cases hi : es.findIdx? (·.key.isStr name) with
  | some i => exact ⟨_, _, by simp only [Obj.putName_eq, Obj.putNameByArray, hi]; rfl⟩
  | none => exact ⟨_, _, by simp only [Obj.putName_eq, Obj.putNameByArray, hi]; rfl⟩
section
variable {M : Model} {A : Around} {E : Value -> Shared -> Prop} {s : Shared}
theorem nsSet_any {a : Addr} {m : Str -> Option Value} {name : Str} {v : Value} {o : Obj} {es : Array DictEntry} {ep : Nat} {Q : Unit -> Shared -> Prop} (hn : s.heap.Ns a m) (ho : s.heap.get? a = some o) (hd : o.data = .dict es ep)
    (h : ∀ h' es' ep', h'.Ns a (fun x => if x = name then some v else m x) -> Heap.SameBut a s.heap h' -> h'.get? a = some { o with data := .dict es' ep' } -> Q () { s with heap := h', toks := s.toks + 1 }) :
    wpAny M A (nsSet a name v) Q E s := fun Γ p _ => by
  have base := Sem.wp_nsSet M Γ (fun e _ s' => E e s') p s hn name v (fun _ _ s' => s'.heap.Ns a (fun x => if x = name then some v else m x)) fun h' q _ => q
  obtain ⟨o', es', ep', ho', hd', hk, hm⟩ := id hn
  cases ho.symm.trans ho'
  simp only [nsSet, strHash, Sem.wp_bind', Sem.wp_cmd_ask, Sem.wp_pure', Sem.wp_cmd_mkText] at base ⊢
  rw [Sem.wp_loadPart_of M Γ _ p { s with toks := s.toks + 1 } (o := o) _ ho] at base ⊢
  have hany : es'.any (·.refKey) = false := by
    rw [Array.any_eq_false']; intro e he; obtain ⟨n, t, h⟩ := hk e he; simp [DictEntry.refKey, h]
  simp only [hd', aRefKeyMayBeTheName_eq, aRefKeyMayBeTheNameByArray, hany, Bool.and_false, Bool.false_eq_true, if_false, Sem.wp_cmd_updatePart] at base ⊢
  obtain ⟨es2, ep2, e2⟩ := putName_data name (PyData.keyHash M.w.params name) (.str name s.toks) v o hd'
  refine ⟨by rw [ho]; rfl, h _ es2 ep2 base.2 (Heap.SameBut.update ..) ?_⟩
  have q := Heap.get?_update_self (Obj.putName name (PyData.keyHash M.w.params name) (.str name s.toks) v) ho (by rw [e2]; rfl)
  rw [e2] at q
  exact q
theorem storeLocal_any {env : Env} {m : Str -> Option Value} {name : Str} {v : Value} {o : Obj} {es : Array DictEntry} {ep : Nat} {Q : Unit -> Shared -> Prop} (hl : env.kindOf name = some .local) (hn : s.heap.Ns env.locals m) (ho : s.heap.get? env.locals = some o) (hd : o.data = .dict es ep)
    (h : ∀ h' es' ep', h'.Ns env.locals (fun x => if x = name then some v else m x) -> Heap.SameBut env.locals s.heap h' -> h'.get? env.locals = some { o with data := .dict es' ep' } -> Q () { s with heap := h', toks := s.toks + 1 })
    (hp : (env.scope.kind == .class || (env.scope.kind == .module && env.locals != env.globals)) = false := by rfl) : wpAny M A (storeName env name v) Q E s := by
  rw [storeName_local hl hp]; exact nsSet_any hn ho hd h
end
noncomputable def clOf (env : Env) (names : List (Str × NameKind)) (acc : List (Str × Addr)) : List (Str × Addr) :=
  names.foldl (fun cs p => if p.2 == .free then (p.1, (env.cells.lookup p.1).getD 0) :: cs else cs) acc
theorem clOf_lookup (env : Env) (y : Str) (c : Addr) (hc : env.cells.lookup y = some c) : ∀ (names : List (Str × NameKind)) (acc : List (Str × Addr)), (acc.lookup y = some c \/ (acc.lookup y = none /\ (y, NameKind.free) ∈ names)) -> (clOf env names acc).lookup y = some c
  | [], acc, h => by
    rcases h with h | h
    · exact h
    · exact absurd h.2 (by simp)
  | p :: r, acc, h => by
    show (clOf env r (if p.2 == .free then (p.1, (env.cells.lookup p.1).getD 0) :: acc else acc)).lookup y = some c
    apply clOf_lookup env y c hc r
    by_cases hp : p.2 == .free
    · rw [if_pos hp]
      by_cases hy : y = p.1
      · subst hy
        exact .inl (by simp [List.lookup_cons, hc])
      · have hb : (y == p.1) = false := by simpa using hy
        rw [List.lookup_cons, hb]
        rcases h with h | h
        · exact .inl h
        · refine .inr ⟨h.1, ?_⟩
          rcases List.mem_cons.mp h.2 with q | q
          · exact absurd (congrArg Prod.fst q) hy
          · exact q
    · rw [if_neg hp]
      rcases h with h | h
      · exact .inl h
      · refine .inr ⟨h.1, ?_⟩
        rcases List.mem_cons.mp h.2 with q | q
        · exact absurd (by rw [<- q]; rfl) hp
        · exact q
theorem closure_is {env : Env} {scope : Scope} (h : ∀ p ∈ scope.names, p.2 = .free -> (env.cells.lookup p.1).isSome = true) : closureFor scope env = pure (clOf env scope.names []) := by
  have key : ∀ (names : List (Str × NameKind)) (acc : List (Str × Addr)), (∀ p ∈ names, p.2 = .free -> (env.cells.lookup p.1).isSome = true) ->
      (forIn names acc fun x r => do
        let cs := r
        if x.2 == .free then do
          let c <- cellOf env x.1
          pure (ForInStep.yield ((x.1, c) :: cs))
        else pure (ForInStep.yield cs) : Sem (List (Str × Addr))) = pure (clOf env names acc) := by
    intro names
    induction names with
    | nil => intro acc _; rfl
    | cons p r ih =>
      intro acc hh
      rw [List.forIn_cons]
      have hr := ih (if p.2 == .free then (p.1, (env.cells.lookup p.1).getD 0) :: acc else acc) (fun q hq => hh q (.tail _ hq))
      by_cases hp : p.2 == .free
      · obtain ⟨c, hc⟩ := Option.isSome_iff_exists.mp (hh p (.head _) (by simpa using hp))
        have hco : cellOf env p.1 = pure c := by unfold cellOf; rw [hc]
        simp only [hp, if_true, hco, pure_bind] at hr ⊢
        rw [hc] at hr
        simp only [Option.getD_some] at hr
        rw [hr]
        show _ = pure (clOf env r (if p.2 == .free then (p.1, (env.cells.lookup p.1).getD 0) :: acc else acc))
        rw [if_pos hp, hc]; rfl
      · have hp' : (p.2 == NameKind.free) = false := by simpa using hp
        simp only [hp', Bool.false_eq_true, if_false, pure_bind] at hr ⊢
        rw [hr]
        show _ = pure (clOf env r (if p.2 == .free then (p.1, (env.cells.lookup p.1).getD 0) :: acc else acc))
        rw [if_neg hp]
  have := key scope.names [] h
  unfold closureFor
  exact congrArg (fun t => t >>= fun r => pure r) this
section
variable {W : Wd} {G : Gl} {n : Nat} {J : I} {sc sc' : Scope} {σ : Vars} {env : Env} {A : Around} {X X' : Addr -> Prop} {s s' : Shared} {E : Value -> Shared -> Prop}
theorem VarAt.widen {h : Heap} {m : Str -> Option Value} {x : Str} {p : PV} (hx : ∀ a, a < h.objs.size -> X' a -> X a) (v : VarAt W X env h m x p) : VarAt W X' env h m x p := by
  rcases v with ⟨a, v, b, c⟩ | ⟨a, cd, c, v, b, d, e⟩
  · exact .inl ⟨a, v, b, c.widen hx⟩
  · exact .inr ⟨a, cd, c, v, b, d, e.widen hx⟩
theorem EnvOK.widen {h : Heap} (O : EnvOK W sc σ X env h) (hx : ∀ a, a < h.objs.size -> X' a -> X a) : EnvOK W sc σ X' env h :=
  ⟨O.kind, O.gl, O.bi, let ⟨m, a, b⟩ := O.ns; ⟨m, a, fun x p e => (b x p e).widen hx⟩, O.glob, O.loc, O.lam⟩
theorem Heap.ns_lt {h : Heap} {a : Addr} {m : Str -> Option Value} (x : h.Ns a m) : a < h.objs.size := let ⟨_, _, _, ho, _⟩ := x; Heap.lt_size ho
theorem Heap.cell_lt {h : Heap} {a : Addr} {v : Option Value} (x : h.IsCell a v) : a < h.objs.size := let ⟨_, ho, _⟩ := x; Heap.lt_size ho
theorem EnvOK.stepY {h h' : Heap} {Y : Addr -> Prop} (O : EnvOK W sc σ X env h) (k : KeepsBut Y h h') (hy : ∀ a, Y a -> X a) (ho : ∀ a, Y a -> h.objs.size <= a) : EnvOK W sc σ X env h' :=
  ⟨O.kind, O.gl, O.bi, by
    obtain ⟨m, a, b⟩ := O.ns
    refine ⟨m, ns_keeps a k (fun q => Nat.lt_irrefl _ (Nat.lt_of_lt_of_le (Heap.ns_lt a) (ho _ q))), fun x p e => ?_⟩
    rcases b x p e with ⟨a, v, b, c⟩ | ⟨a, cd, c, v, b, d, e⟩
    · exact .inl ⟨a, v, b, c.keeps k hy⟩
    · exact .inr ⟨a, cd, c, v, b, cell_keeps d k (fun q => Nat.lt_irrefl _ (Nat.lt_of_lt_of_le (Heap.cell_lt d) (ho _ q))), e.keeps k hy⟩, O.glob, O.loc, O.lam⟩
theorem relabel_lookup (env : Env) (y : Str) : ∀ (names : List (Str × NameKind)), (names.map fun (n, k) => if (k == NameKind.free && env.scope.kind == .function && env.kindOf n == some .cell) = true then (n, NameKind.cell) else (n, k)).lookup y =
    (names.lookup y).map fun k => if (k == NameKind.free && env.scope.kind == .function && env.kindOf y == some .cell) = true then NameKind.cell else k
  | [] => rfl
  | (a, k) :: r => by
    have ih := relabel_lookup env y r
    show List.lookup y ((if (k == NameKind.free && env.scope.kind == .function && env.kindOf a == some .cell) = true then (a, NameKind.cell) else (a, k)) :: _) = _
    by_cases hy : y = a
    · subst hy
      by_cases hc : (k == NameKind.free && env.scope.kind == .function && env.kindOf y == some .cell) = true
      · rw [if_pos hc]; simp only [List.lookup_cons, beq_self_eq_true, Option.map_some]; rw [if_pos hc]
      · rw [if_neg hc]; simp only [List.lookup_cons, beq_self_eq_true, Option.map_some]; rw [if_neg hc]
    · have hb : (y == a) = false := by simpa using hy
      have h2 : ∀ z : Str × NameKind, z.1 = a -> ∀ l : List (Str × NameKind), List.lookup y (z :: l) = List.lookup y l := fun z hz l => by
        obtain ⟨z1, z2⟩ := z; subst hz; simp only [List.lookup_cons, hb]
      rw [h2 _ (by split <;> rfl), h2 (a, k) rfl, ih]
structure CompFacts (sc : Scope) (σ : Vars) (sc' : Scope) (x : Str) : Prop where
  kind : sc'.kind = .function
  noL : sc'.names.lookup ("_law_heard" : Str) = none
  x : sc'.names.lookup x = some .local
  cell : ∀ y ∈ sc'.names, y.2 ≠ .cell
  names : ∀ y ∈ sc'.names, y.2 = .local -> sc'.names.lookup y.1 = some .local
  free : ∀ y ∈ sc'.names, y.2 = .free -> (σ.lookup y.1).isSome = true /\ sc.names.lookup y.1 ≠ some .local /\ (y.1 == ("__classdict__" : Str)) = false
theorem compOK_facts {x : Str} {iter : Expr} (h : compOK sc σ sc' x iter = true) : CompFacts sc σ sc' x /\ ∀ v, foldedSetIterable iter env v = pure v := by
  unfold compOK at h
  simp only [Bool.and_eq_true] at h
  obtain ⟨⟨⟨⟨h1, h2⟩, h2'⟩, h3⟩, h4⟩ := h
  have h5 := List.all_eq_true.mp h4
  refine ⟨⟨by simpa using h1, by simpa using h2', by simpa using h2, fun y hy => ?_, fun y hy hl => ?_, fun y hy hf => ?_⟩, fun v => ?_⟩
  · have := h5 y hy
    simp only [Bool.and_eq_true, bne_iff_ne] at this
    exact this.1.1
  · have := h5 y hy
    simp only [Bool.and_eq_true, Bool.or_eq_true, bne_iff_ne, beq_iff_eq] at this
    rcases this.1.2 with q | q
    · exact absurd hl q
    · exact q
  · have := h5 y hy
    simp only [Bool.and_eq_true, Bool.or_eq_true, bne_iff_ne] at this
    rcases this.2 with q | q
    · exact absurd hf q
    · exact ⟨q.1.1, q.1.2, by simpa using q.2⟩
  · cases iter <;> first | rfl | (cases h3)
theorem mem_of_lookup {β : Type} {y : Str} {k : β} : ∀ {l : List (Str × β)}, l.lookup y = some k -> (y, k) ∈ l
  | (a, b) :: r, h => by
    by_cases hy : y = a
    · subst hy; simp only [List.lookup_cons, beq_self_eq_true, Option.some.injEq] at h; subst h; exact .head _
    · have hb : (y == a) = false := by simpa using hy
      simp only [List.lookup_cons, hb] at h
      exact .tail _ (mem_of_lookup h)
theorem freeVars_lookup {y : Str} {p : PV} : ∀ {σ : Vars}, (freeVars sc' σ).lookup y = some p -> σ.lookup y = some p /\ sc'.names.lookup y = some .free
  | (a, b) :: r, h => by
    unfold freeVars at h
    rw [List.filter_cons] at h
    by_cases hf : (sc'.names.lookup a == some NameKind.free) = true
    · rw [if_pos hf] at h
      by_cases hy : y = a
      · subst hy
        simp only [List.lookup_cons, beq_self_eq_true, Option.some.injEq] at h ⊢
        exact ⟨h, by simpa using hf⟩
      · have hb : (y == a) = false := by simpa using hy
        simp only [List.lookup_cons, hb] at h ⊢
        exact freeVars_lookup (σ := r) h
    · rw [if_neg hf] at h
      have ih := freeVars_lookup (σ := r) h
      have hy : (y == a) = false := by
        cases hq : y == a with
        | false => rfl
        | true =>
          rw [beq_iff_eq] at hq
          subst hq
          rw [ih.2] at hf
          exact absurd (by simp) hf
      simp only [List.lookup_cons, hy]
      exact ih
theorem lookup_some_of {y : Str} {σ : Vars} (h : (σ.lookup y).isSome = true) : ∃ p, σ.lookup y = some p := Option.isSome_iff_exists.mp h
theorem EnvOK.cells {h : Heap} {y : Str} (O : EnvOK W sc σ X env h) (h1 : (σ.lookup y).isSome = true) (h2 : sc.names.lookup y ≠ some .local) : ∃ c, env.cells.lookup y = some c := by
  obtain ⟨p, hp⟩ := lookup_some_of h1
  obtain ⟨m, _, b⟩ := O.ns
  rcases b y p hp with ⟨a, _⟩ | ⟨a, cd, c, v, b, d, e⟩
  · exact absurd (O.loc y a) h2
  · exact ⟨c, b⟩
theorem compEnv_ok {x : Str} {C : Addr} {h : Heap} {m : Str -> Option Value} {v : Value} {p : PV} (F : CompFacts sc σ sc' x) (O : EnvOK W sc σ X env h) (hC : h.Ns C m) (hm : m x = some v) (r : Rep W h X v p) :
    EnvOK W sc' ((x, p) :: freeVars sc' σ) X (compEnvC sc' (clOf env sc'.names []) C env) h := by
  have kf : ∀ y, (compEnvC sc' (clOf env sc'.names []) C env).kindOf y = (sc'.names.lookup y).map fun k => if (k == NameKind.free && env.scope.kind == .function && env.kindOf y == some .cell) = true then NameKind.cell else k := fun y => relabel_lookup env y sc'.names
  refine ⟨F.kind, O.gl, O.bi, ⟨m, hC, fun y q hy => ?_⟩, fun y hy => ?_, fun y hy => ?_, fun q => by rw [F.noL] at q; cases q⟩
  · by_cases hx : y = x
    · subst hx
      simp only [List.lookup_cons, beq_self_eq_true, Option.some.injEq] at hy
      subst hy
      exact .inl ⟨by rw [kf, F.x]; rfl, v, hm, r⟩
    · have hb : (y == x) = false := by simpa using hx
      simp only [List.lookup_cons, hb] at hy
      obtain ⟨g1, g2⟩ := freeVars_lookup hy
      obtain ⟨_, f2, f3⟩ := F.free _ (mem_of_lookup g2) rfl
      obtain ⟨m0, _, b⟩ := O.ns
      rcases b y q g1 with ⟨a, _⟩ | ⟨a, cd, c, u, b, d, e⟩
      · exact absurd (O.loc y a) f2
      · refine .inr ⟨?_, cd, c, u, clOf_lookup env y c b _ _ (.inr ⟨rfl, mem_of_lookup g2⟩), d, e⟩
        rw [kf, g2]
        simp only [Option.map_some]
        split
        · exact .inl rfl
        · exact .inr rfl
  · rw [kf, hy]; rfl
  · rw [kf] at hy
    cases hq : sc'.names.lookup y with
    | none => rw [hq] at hy; cases hy
    | some k =>
      rw [hq] at hy
      simp only [Option.map_some, Option.some.injEq] at hy
      split at hy
      · cases hy
      · rw [hy]
end
section
variable {W : Wd} {G : Gl} {n : Nat} {J : I} {sc sc' : Scope} {σ : Vars} {env : Env} {A : Around} {X X' : Addr -> Prop} {s s' : Shared} {E : Value -> Shared -> Prop}
theorem noErr_ok {α β : Type} {x : Out α} {f : α -> Out β} {b : β} (h : (noErr x).bind f = .ok b) : ∃ a, x = .ok a /\ f a = .ok b := by
  induction x using Out.casesOn with
  | ok a => exact ⟨a, rfl, h⟩
  | err p => cases h
  | stuck => cases h
theorem bind_ok {α β : Type} {x : Out α} {f : α -> Out β} {b : β} (h : x.bind f = .ok b) : ∃ a, x = .ok a /\ f a = .ok b := by
  induction x using Out.casesOn with
  | ok a => exact ⟨a, rfl, h⟩
  | err p => cases h
  | stuck => cases h
theorem sure {α β : Type} {m : Sem β} {RR : Heap -> β -> α -> Prop} {r : Out α} {a : α} {P : β -> Shared -> Prop} (hr : r = .ok a)
    (h1 : r ≠ .stuck -> wpAny (model W.prog W.w) A m (Post W s RR r) (Epost W X s r) s)
    (h2 : ∀ v s', RR s'.heap v a -> Step W NoA s s' -> P v s') : wpAny (model W.prog W.w) A m P E s :=
  wpAny_mono (h1 (by rw [hr]; exact nofun)) (fun v s' ⟨c, e, x, t⟩ => h2 v s' (by rw [hr] at e; cases e; exact x) t) fun _ _ ⟨_, e, _⟩ => by rw [hr] at e; cases e
theorem newCompEnv {M : Model} {scope : Scope} {globals : Addr} {closure : List (Str × Addr)} {qual : Str} {outer : Env} {Q : Env -> Shared -> Prop} (hc : ∀ x ∈ scope.names, x.2 ≠ .cell)
    (h : Q (newEnv scope s.heap.objs.size globals closure qual none .none (some outer) builtinsNs) { s with heap := s.heap.push { cls := .type "dict", data := .dict #[] } }) :
    wpAny M A (newFunctionEnv scope globals closure [] qual none .none (some outer)) Q E s := by
  simp only [newFunctionEnv, Option.isSome_some, if_true]
  simp only [newEnv] at h
  refine wpAny_bind (wpAny_alloc ?_)
  rw [forIn_yield_id closure (fun x hx c => by
    obtain ⟨name, kind⟩ := x
    have : (kind == NameKind.cell) = false := by simpa using hc _ hx
    simp only [this, Bool.false_eq_true, if_false])]
  exact wpAny_bind (wpAny_pure (wpAny_bind (wpAny_pure (wpAny_pure h))))
theorem comp_core {x : Str} {px pos : Pos} {iter elt : Expr} {ifs : List Expr} {items qs : List PV} {I : Addr} {s0 s2 : Shared} (SE : SndE W n J) (ST : SndT W n J)
    (H0 : Here W n A X sc σ env s0) (t02 : Step W NoA s0 s2) (hI0 : s0.heap.objs.size <= I) (hI2 : I < s2.heap.objs.size) (hl : items.length <= 1000)
    (src : ∀ X' : Addr -> Prop, X' I -> (∀ a, a < s2.heap.objs.size -> X' a -> X a \/ a = I) -> ∃ St, Src W A I items X' St /\ St 0 s2.heap)
    (F : CompFacts sc σ sc' x) (hm : mapOut (compEl J sc' (freeVars sc' σ) x ifs elt) items = .ok qs)
    {RR : Value -> Addr -> Result -> Shared -> Prop}
    (hRR : ∀ D C s' vs m, s2.heap.objs.size <= D -> s2.heap.objs.size <= C -> D ≠ C -> Step W (fun a => s0.heap.objs.size <= a) s2 s' -> s'.heap.PlainList D (vs : List Value).toArray -> Reps W s'.heap (fun a => X a \/ a = I \/ a = D \/ a = C) vs qs -> s'.heap.Ns C m ->
      (∃ oC, s'.heap.get? C = some oC /\ oC.cls = .type "dict") -> RR (.ref D) C (.ok .next) s') :
    wpAny (model W.prog W.w) A (newList []) (fun acc s₃ => wpAny (model W.prog W.w) A (newFunctionEnv sc' env.globals (clOf env sc'.names []) [] env.qual none .none (some env)) (fun cenv s₄ =>
      codeAny (model W.prog W.w) A (.compStart (.ListComp elt [⟨.Name x px, iter, ifs, 0⟩] sc' pos) 0 (.ref I) acc { cenv with scope := relabel sc' env }) (RR acc cenv.locals) s₄) E s₃) E s2 := by
  refine wpAny_newObj_type (newCompEnv F.cell ?_)
  have hH1 := Heap.get?_push_size s2.heap (o := { cls := .type "list", dict := none, data := .seq ([] : List Value).toArray }) rfl
  generalize hH2 : s2.heap.push { cls := .type "list", dict := none, data := .seq ([] : List Value).toArray } = H2 at hH1 ⊢
  have hCs : H2.objs.size = s2.heap.objs.size + 1 := by rw [<- hH2, Heap.size_push]
  have hH3 := Heap.get?_push_size H2 (o := { cls := .type "dict", data := .dict #[] }) rfl
  have hns3 : (H2.push { cls := .type "dict", data := .dict #[] }).Ns H2.objs.size fun _ => none := Heap.Ns.new ..
  have hH1' := Heap.get?_push_of_some { cls := .type "dict", data := .dict #[] } hH1
  generalize hH : H2.push { cls := .type "dict", data := .dict #[] } = h₁ at hH3 hH1' hns3 ⊢
  have hs1 : h₁.objs.size = s2.heap.objs.size + 2 := by rw [<- hH, Heap.size_push, hCs]
  have old : ∀ b o, s2.heap.get? b = some o -> h₁.get? b = some o := fun b o e => by rw [<- hH]; exact Heap.get?_push_of_some _ (by rw [<- hH2]; exact Heap.get?_push_of_some _ e)
  obtain ⟨D, hD⟩ : ∃ D, D = s2.heap.objs.size := ⟨_, rfl⟩
  obtain ⟨C, hC⟩ : ∃ C, C = H2.objs.size := ⟨_, rfl⟩
  rw [<- hD] at hH1 hH1'
  rw [<- hC] at hH3 hns3
  have hCD : C = D + 1 := by rw [hC, hCs, hD]
  have hDC : D ≠ C := by rw [hCD]; exact Nat.ne_of_lt (Nat.lt_succ_self _)
  have hDI : D ≠ I := by rw [hD]; exact Nat.ne_of_gt hI2
  have hCI : C ≠ I := by rw [hCD, hD]; exact Nat.ne_of_gt (Nat.lt_succ_of_lt hI2)
  have hs02 := t02.size
  have t24 : Step W NoA s2 { s2 with heap := h₁ } := Step.of_all (tk := s2.toks) t02.base old (by rw [hs1]; exact Nat.le_add_right _ _)
  have hBI : W.hB.objs.size <= I := Nat.le_trans H0.S.base.size hI0
  have hBD : W.hB.objs.size <= D := by rw [hD]; exact t02.base.size
  have hBC : W.hB.objs.size <= C := by rw [hCD]; exact Nat.le_succ_of_le hBD
  have hXlt : ∀ a, X a -> a < s0.heap.objs.size := H0.S.priv
  obtain ⟨X', hX'⟩ : ∃ X' : Addr -> Prop, X' = fun a => X a \/ a = I \/ a = D \/ a = C := ⟨_, rfl⟩
  have xI : X' I := by rw [hX']; exact .inr (.inl rfl)
  have xD : X' D := by rw [hX']; exact .inr (.inr (.inl rfl))
  have xC : X' C := by rw [hX']; exact .inr (.inr (.inr rfl))
  obtain ⟨St, S, st0⟩ := src X' xI fun a ha q => by
    rw [hX'] at q
    rcases q with q | q | q | q
    · exact .inl q
    · exact .inr q
    · rw [q, hD] at ha; exact absurd ha (Nat.lt_irrefl _)
    · rw [q, hCD, hD] at ha; exact absurd ha (Nat.not_lt.mpr (Nat.le_succ _))
  have st1 : St 0 h₁ := S.keep st0 t24.keeps fun _ f => f.elim
  obtain ⟨YY, hYY⟩ : ∃ YY : Addr -> Prop, YY = fun a => a = I \/ a = D \/ a = C := ⟨_, rfl⟩
  have yX : ∀ a, YY a -> X' a := fun a q => by rw [hYY] at q; rw [hX']; exact .inr q
  have yO : ∀ a, YY a -> s0.heap.objs.size <= a := fun a q => by
    rw [hYY] at q
    rcases q with q | q | q
    · rw [q]; exact hI0
    · rw [q, hD]; exact hs02
    · rw [q, hCD, hD]; exact Nat.le_succ_of_le hs02
  have O0 : EnvOK W sc σ X' env s0.heap := H0.O.widen fun a ha q => by
    rw [hX'] at q
    rcases q with q | q | q | q
    · exact q
    · exact absurd ha (Nat.not_lt.mpr (yO a (by rw [hYY]; exact .inl q)))
    · exact absurd ha (Nat.not_lt.mpr (yO a (by rw [hYY]; exact .inr (.inl q))))
    · exact absurd ha (Nat.not_lt.mpr (yO a (by rw [hYY]; exact .inr (.inr q))))
  have t04 : Step W YY s0 { s2 with heap := h₁ } := (t02.trans t24).no
  have hxl : (compEnvC sc' (clOf env sc'.names []) C env).kindOf x = some .local := lookup_relabel_local F.x
  have hpp : ((compEnvC sc' (clOf env sc'.names []) C env).scope.kind == .class || ((compEnvC sc' (clOf env sc'.names []) C env).scope.kind == .module && (compEnvC sc' (clOf env sc'.names []) C env).locals != (compEnvC sc' (clOf env sc'.names []) C env).globals)) = false := by
    show (sc'.kind == .class || (sc'.kind == .module && _)) = false
    rw [F.kind]; rfl
  have here : ∀ (s' : Shared) (v : Value) (p : PV) (m : Str -> Option Value), Step W YY s0 s' -> s'.heap.Ns C m -> m x = some v -> Rep W s'.heap X' v p -> C < s'.heap.objs.size -> D < s'.heap.objs.size -> I < s'.heap.objs.size ->
      Here W n A X' sc' ((x, p) :: freeVars sc' σ) (compEnvC sc' (clOf env sc'.names []) C env) s' := by
    intro s' v p m t hn hmx r hc hd hi
    refine ⟨⟨t.base, H0.S.room, H0.S.hand, let ⟨l, a, b⟩ := H0.S.fr; ⟨l, a, b.step t.fr⟩, fun a q => ?_⟩, H0.T, compEnv_ok F (O0.stepY t.keeps yX yO) hn hmx r⟩
    rw [hX'] at q
    rcases q with q | q | q | q
    · exact Nat.lt_of_lt_of_le (hXlt a q) t.size
    · rw [q]; exact hi
    · rw [q]; exact hd
    · rw [q]; exact hc
  have loop : codeAny (model W.prog W.w) A (.compLoop (.ListComp elt [⟨.Name x px, iter, ifs, 0⟩] sc' pos) 0 (.ref I) (.ref D) (compEnvC sc' (clOf env sc'.names []) C env)) (RR (.ref D) C) { s2 with heap := h₁ } := by
    refine codeAny_compLoop_tests (fun k s' => ∃ i vs us rs m oC, k = items.length + 1 - i /\ i <= items.length /\ mapOut (compEl J sc' (freeVars sc' σ) x ifs elt) (items.drop i) = .ok rs /\ qs = us ++ rs /\
      Step W YY s0 s' /\ Step W YY s2 s' /\ St i s'.heap /\ s'.heap.PlainList D (vs : List Value).toArray /\ Reps W s'.heap X' vs us /\ us.length <= i /\ s'.heap.Ns C m /\ s'.heap.get? C = some oC /\ oC.cls = .type "dict") ?_ (items.length + 1)
      ⟨0, [], [], qs, _, _, rfl, Nat.zero_le _, hm, rfl, t04, t24.no, st1, ⟨_, hH1'⟩, .nil, Nat.le_refl _, hns3, hH3, rfl⟩
    rintro k s' ⟨i, vs, us, rs, m, oC, rfl, hi, hmo, rfl, t, t2, hst, hpl, hrep, hlen, hns, hoC, hcC⟩
    rcases Nat.lt_or_ge i items.length with hlt | hge
    · have hp : items[i]? = some items[i] := by simp [hlt]
      have hdrop : items.drop i = items[i] :: items.drop (i + 1) := List.drop_eq_getElem_cons hlt
      generalize items[i] = p at hp hdrop
      rw [hdrop] at hmo
      obtain ⟨o, ho, hm1⟩ := noErr_ok hmo
      obtain ⟨rs', hrs', hm2⟩ := bind_ok hm1
      clear hm1 hmo
      refine S.item hst t.base hp fun v s1 hst1 t1 rv => ?_
      have u1 : Step W YY s' s1 := t1.mono fun a _ q => by rw [hYY]; exact .inl q
      have hns1 : s1.heap.Ns C m := ns_keeps hns t1.keeps hCI
      have hoC1 : s1.heap.get? C = some oC := t1.keeps.get hoC hCI (by rw [hcC]; exact nofun) (by rw [hcC]; exact dict_ne_frame)
      obtain ⟨_, esC, epC, hoC', hdC, _⟩ := id hns1
      cases hoC1.symm.trans hoC'
      refine wpAny_assign_Name (storeLocal_any (s := s1) hxl hns1 hoC1 hdC (fun h' es' ep' hn' hsb' hC' => ?_) hpp)
      have v1 : Step W (fun a => a = C) s1 { s1 with heap := h', toks := s1.toks + 1 } := Step.one t1.base hoC1 hBC (by rw [hcC]; exact nofun) (by rw [hcC]; decide) (by rw [hcC]; exact dict_ne_frame) hsb'
      have u2 : Step W YY s1 { s1 with heap := h', toks := s1.toks + 1 } := v1.mono fun a _ q => by rw [hYY]; exact .inr (.inr q)
      have w1 := (t.trans u1).trans u2
      have w2 := (t2.trans u1).trans u2
      have hst2 : St (i + 1) h' := S.keep hst1 v1.keeps fun a q => ⟨q ▸ xC, fun z => hCI (q.symm.trans z)⟩
      have hpl2 : h'.PlainList D vs.toArray := hpl.at fun o e => hsb'.extBut _ _ hDC (t1.keeps.get e hDI (by obtain ⟨n, en⟩ := hpl; rw [en] at e; cases e; exact nofun) (by obtain ⟨n, en⟩ := hpl; rw [en] at e; cases e; show Value.type "list" ≠ _; decide))
      have hrep2 : Reps W h' X' vs us := (hrep.keeps t1.keeps fun a q => q ▸ xI).keeps v1.keeps fun a q => q ▸ xC
      have rv2 : Rep W h' X' v p := rv.keeps v1.keeps fun a q => q ▸ xC
      have hd2 : D < h'.objs.size := let ⟨_, e⟩ := hpl2; Heap.lt_size e
      have hc2 : C < h'.objs.size := Heap.lt_size hC'
      have hi2 : I < h'.objs.size := Nat.lt_of_lt_of_le hI2 w2.size
      have E2 := here { s1 with heap := h', toks := s1.toks + 1 } v p _ w1 hn' (by simp) rv2 hc2 hd2 hi2
      have next : ∀ (s3 : Shared), Step W NoA { s1 with heap := h', toks := s1.toks + 1 } s3 -> rs = rs' -> ∃ m', m' < items.length + 1 - i /\ ∃ i vs us' rs m oC, m' = items.length + 1 - i /\ i <= items.length /\ mapOut (compEl J sc' (freeVars sc' σ) x ifs elt) (items.drop i) = .ok rs /\ us ++ rs' = us' ++ rs /\
          Step W YY s0 s3 /\ Step W YY s2 s3 /\ St i s3.heap /\ s3.heap.PlainList D (vs : List Value).toArray /\ Reps W s3.heap X' vs us' /\ us'.length <= i /\ s3.heap.Ns C m /\ s3.heap.get? C = some oC /\ oC.cls = .type "dict" := by
        intro s3 t3 _
        refine ⟨items.length + 1 - (i + 1), by omega, i + 1, vs, us, rs', _, _, rfl, by omega, hrs', rfl, w1.trans t3.no, w2.trans t3.no, S.keep hst2 t3.keeps fun _ f => f.elim, ?_, hrep2.keeps t3.keeps fun _ f => f.elim, by omega, ns_keeps hn' t3.keeps id,
          t3.keeps.get hC' id (by show oC.cls ≠ _; rw [hcC]; exact nofun) (by show oC.cls ≠ _; rw [hcC]; exact dict_ne_frame), hcC⟩
        exact hpl2.at fun o e => t3.keeps.get e id (by obtain ⟨n, en⟩ := hpl2; rw [en] at e; cases e; exact nofun) (by obtain ⟨n, en⟩ := hpl2; rw [en] at e; cases e; show Value.type "list" ≠ _; decide)
      have push : ∀ (s3 : Shared) (E' : Value -> Shared -> Prop), Step W NoA { s1 with heap := h', toks := s1.toks + 1 } s3 -> ∀ y, J.e sc' ((x, p) :: freeVars sc' σ) elt = .ok y -> o = some y ->
          wpAny (model W.prog W.w) A (eval elt (compEnvC sc' (clOf env sc'.names []) C env)) (fun z s₄ => wpAny (model W.prog W.w) A (call (.builtin "list.append") [.ref D, z]) (fun _ s3 => ∃ m', m' < items.length + 1 - i /\ ∃ i vs us' rs' m oC, m' = items.length + 1 - i /\ i <= items.length /\ mapOut (compEl J sc' (freeVars sc' σ) x ifs elt) (items.drop i) = .ok rs' /\ us ++ rs = us' ++ rs' /\
          Step W YY s0 s3 /\ Step W YY s2 s3 /\ St i s3.heap /\ s3.heap.PlainList D (vs : List Value).toArray /\ Reps W s3.heap X' vs us' /\ us'.length <= i /\ s3.heap.Ns C m /\ s3.heap.get? C = some oC /\ oC.cls = .type "dict") E' s₄) E' s3 := by
        intro s3 E' t3 y hy hoy
        subst hoy
        have hrs : rs = y :: rs' := by cases hm2; rfl
        subst hrs
        refine sure hy (SE.at (E2.step t3)) fun z s4 rz t4 => ?_
        have t34 := t3.trans t4
        have hpl4 : s4.heap.PlainList D vs.toArray := hpl2.at fun o e => t34.keeps.get e id (by obtain ⟨n, en⟩ := hpl2; rw [en] at e; cases e; exact nofun) (by obtain ⟨n, en⟩ := hpl2; rw [en] at e; cases e; show Value.type "list" ≠ _; decide)
        have hvl : vs.length = us.length := hrep.length
        refine wpAny_list_append_plain hpl4 (fun h5 hpl5 hsb5 => ?_) (by simp only [List.size_toArray]; rw [sizeLine_eq]; omega)
        obtain ⟨k4, e4⟩ := hpl4
        have v5 : Step W (fun a => a = D) s4 { s4 with heap := h5 } := Step.one t34.base e4 hBD nofun (by show Value.type "list" ≠ _; decide) (by show Value.type "list" ≠ _; decide) hsb5
        have u5 : Step W YY s4 { s4 with heap := h5 } := v5.mono fun a _ q => by rw [hYY]; exact .inr (.inl q)
        have hC4 := t34.keeps.get hC' id (by show oC.cls ≠ _; rw [hcC]; exact nofun) (by show oC.cls ≠ _; rw [hcC]; exact dict_ne_frame)
        refine ⟨items.length + 1 - (i + 1), by omega, i + 1, vs ++ [z], us ++ [y], rs', _, _, rfl, by omega, hrs', by simp, (w1.trans t34.no).trans u5, (w2.trans t34.no).trans u5,
          S.keep (S.keep hst2 t34.keeps fun _ f => f.elim) v5.keeps fun a q => ⟨q ▸ xD, fun z => hDI (q.symm.trans z)⟩, by simpa using hpl5, ?_, by simp; omega, ns_keeps (ns_keeps hn' t34.keeps id) v5.keeps (fun q => hDC q.symm), v5.keeps.get hC4 (fun q => hDC q.symm) (by show oC.cls ≠ _; rw [hcC]; exact nofun) (by show oC.cls ≠ _; rw [hcC]; exact dict_ne_frame), hcC⟩
        exact ((hrep2.keeps t34.keeps fun _ f => f.elim).append (.cons rz .nil)).keeps v5.keeps fun a q => q ▸ xD
      unfold compEl at ho
      split at ho
      · obtain ⟨y, hy, ho⟩ := bind_ok ho
        refine wpAny_tests_nil ?_
        rw [if_pos rfl]
        exact push _ _ (Step.refl w1.base) y hy (by cases ho; rfl)
      · rename_i c
        obtain ⟨b, hb, ho⟩ := bind_ok ho
        refine wpAny_tests_one (sure hb (ST.at E2) fun vb s3 rb t3 => ?_)
        cases (show vb = b from rb)
        cases b
        · rw [if_neg (by simp)] at ho ⊢
          cases ho
          cases hm2
          exact next s3 t3 rfl
        · rw [if_pos rfl] at ho ⊢
          obtain ⟨y, hy, ho⟩ := bind_ok ho
          exact push s3 _ t3 y hy (by cases ho; rfl)
      · cases ho
    · obtain rfl : i = items.length := by omega
      rw [List.drop_length] at hmo
      cases hmo
      refine S.done hst t.base fun s1 t1 => ?_
      have u1 : Step W YY s' s1 := t1.mono fun a _ q => by rw [hYY]; exact .inl q
      simp only [List.append_nil] at hRR
      refine hRR D C s1 vs m (by rw [hD]; exact Nat.le_refl _) (by rw [hCD, hD]; exact Nat.le_succ _) hDC ((t2.trans u1).mono fun a _ q => yO a q) ?_ (by rw [<- hX']; exact hrep.keeps t1.keeps fun a q => q ▸ xI) (ns_keeps hns t1.keeps hCI)
        ⟨oC, t1.keeps.get hoC hCI (by rw [hcC]; exact nofun) (by rw [hcC]; exact dict_ne_frame), hcC⟩
      exact hpl.at fun o e => t1.keeps.get e hDI (by obtain ⟨n, en⟩ := hpl; rw [en] at e; cases e; exact nofun) (by obtain ⟨n, en⟩ := hpl; rw [en] at e; cases e; show Value.type "list" ≠ _; decide)
  rw [<- hD, <- hC]
  exact codeAny_compStart_list loop (S.self st1 loop)
end
section
variable {W : Wd} {G : Gl} {n : Nat} {J : I} {sc sc' : Scope} {σ : Vars} {env : Env} {A : Around} {X X' : Addr -> Prop} {s s' : Shared} {E : Value -> Shared -> Prop}
theorem mapOut_ne {f : PV -> Out (Option PV)} : ∀ {items : List PV}, mapOut f items ≠ .stuck -> ∃ qs, mapOut f items = .ok qs
  | [], _ => ⟨[], rfl⟩
  | v :: r, h => by
    have e0 : mapOut f (v :: r) = (noErr (f v)).bind fun x => (mapOut f r).bind fun xs => .ok (match x with | some y => y :: xs | none => xs) := rfl
    rw [e0] at h ⊢
    cases hf : f v with
    | ok x =>
      rw [hf] at h
      have h2 : mapOut f r ≠ .stuck := fun q => h (by show (mapOut f r).bind _ = _; rw [q]; rfl)
      obtain ⟨qs, hq⟩ := mapOut_ne h2
      exact ⟨_, by show (mapOut f r).bind _ = _; rw [hq]; rfl⟩
    | err p => rw [hf] at h; exact (h rfl).elim
    | stuck => rw [hf] at h; exact (h rfl).elim
theorem comp_upto (Y : Hy W G n) (SE : SndE W n J) (ST : SndT W n J) (H : Here W n A X sc σ env s) {x : Str} {px pos : Pos} {iter elt : Expr} {ifs : List Expr} {use : Option (Value -> Sem Unit)} {Q : Value -> Shared -> Prop}
    (ok : compOK sc σ sc' x iter = true) (hne : ((iterP J sc σ iter).bind fun items => (mapOut (compEl J sc' (freeVars sc' σ) x ifs elt) items).bind fun vs => (.ok (.list vs) : Out PV)) ≠ .stuck)
    (hfin : ∀ D C s' vs qs m, ((iterP J sc σ iter).bind fun items => (mapOut (compEl J sc' (freeVars sc' σ) x ifs elt) items).bind fun vs => (.ok (.list vs) : Out PV)) = .ok (.list qs) -> s.heap.objs.size <= D -> s.heap.objs.size <= C -> D ≠ C -> Step W NoA s s' ->
      s'.heap.PlainList D (vs : List Value).toArray -> Reps W s'.heap (fun a => X a \/ a = D \/ a = C) vs qs -> s'.heap.Ns C m -> (∃ oC, s'.heap.get? C = some oC /\ oC.cls = .type "dict") -> compPost (model W.prog W.w) A E use Q (.ref D) C (.ok .next) s')
    (herr : ∀ e s', Epost W X s ((iterP J sc σ iter).bind fun items => (mapOut (compEl J sc' (freeVars sc' σ) x ifs elt) items).bind fun vs => (.ok (.list vs) : Out PV)) e s' -> E e s') :
    wpAny (model W.prog W.w) A (comprehension (.ListComp elt [⟨.Name x px, iter, ifs, 0⟩] sc' pos) sc' env (firstIterPos [⟨.Name x px, iter, ifs, 0⟩] pos) (newList []) false (eval iter env) use) Q E s := by
  obtain ⟨F, hs⟩ := compOK_facts (env := env) ok
  refine wpAny_comprehension_free rfl hs (closure_is fun p hp hf => ?_) F.kind F.names (wpAny_mono (snd_iter Y SE H (bind_ne hne)) (fun xv s1 h1 => wpAny_mono h1 (fun it s2 h2 => ?_) fun _ _ q => herr _ _ (Epost.out q)) fun _ _ q => herr _ _ (Epost.out q))
  · obtain ⟨f1, f2, _⟩ := F.free p hp hf
    obtain ⟨c, hc⟩ := H.O.cells f1 f2
    rw [hc]; rfl
  · obtain ⟨items, I, hi, hl, rfl, t, hI0, hI2, src⟩ := h2
    rw [hi] at hne hfin
    obtain ⟨qs, hq⟩ := mapOut_ne (bind_ne hne)
    refine comp_core (RR := fun acc C => compPost (model W.prog W.w) A E use Q acc C) SE ST H t hI0 hI2 hl src F hq fun D C s' vs m h1 h2 h3 t2 h4 h5 h6 h7 => ?_
    refine hfin D C s' vs qs m (by show (mapOut _ items).bind _ = _; rw [hq]; rfl) (Nat.le_trans t.size h1) (Nat.le_trans t.size h2) h3 (t.back rfl t2) h4 (h5.widen fun a _ q => ?_) h6 h7
    rcases q with q | q | q
    · exact .inl q
    · exact .inr (.inr (.inl q))
    · exact .inr (.inr (.inr q))
theorem comp_list {D C : Addr} {vs : List Value} {qs : List PV} {oC : Obj} {h' : Heap} (S : Sit W n A X s) (h1 : s.heap.objs.size <= D) (h2 : s.heap.objs.size <= C) (h3 : D ≠ C) (t : Step W NoA s s') (hp : s'.heap.PlainList D vs.toArray) (hr : Reps W s'.heap (fun a => X a \/ a = D \/ a = C) vs qs)
    (hC : s'.heap.get? C = some oC) (hcC : oC.cls = .type "dict") (hs : Heap.SameBut C s'.heap h') : Rep W h' X (.ref D) (.list qs) /\ Step W NoA s { s' with heap := h' } := by
  have u : Step W (fun a => a = C) s' { s' with heap := h' } := Step.one (tk := s'.toks) t.base hC (Nat.le_trans S.base.size h2) (by rw [hcC]; exact nofun) (by rw [hcC]; decide) (by rw [hcC]; exact dict_ne_frame) hs
  obtain ⟨k, ek⟩ := hp
  refine ⟨.list (hs.extBut _ _ h3 ek) rfl rfl (fun q => Nat.lt_irrefl _ (Nat.lt_of_lt_of_le (S.priv _ q) h1)) rfl ((hr.keeps u.keeps fun a q => .inr (.inr q)).widen fun a _ q => .inl q), ?_⟩
  exact t.back rfl (u.mono fun a _ q => q ▸ h2)
theorem lc_is {elt : Expr} {gens : List Comprehension} (h : listCompP J sc σ elt gens sc' ≠ .stuck) : ∃ x px iter ifs, gens = [⟨.Name x px, iter, ifs, 0⟩] /\ compOK sc σ sc' x iter = true := by
  obtain ⟨⟨t, iter, ifs, as⟩, rfl⟩ := only_is h
  obtain ⟨x, hx⟩ := onSome_is (o := vName t) h
  obtain ⟨px, rfl⟩ := vName_eq hx
  have hc := ite_is (show (if (as == 0 && compOK sc σ sc' x iter) = true then (iterP J sc σ iter).bind fun items => (mapOut (compEl J sc' (freeVars sc' σ) x ifs elt) items).bind fun vs => Out.ok (PV.list vs) else .stuck) ≠ .stuck from h)
  rw [Bool.and_eq_true] at hc
  obtain ⟨h0, ok⟩ := hc
  obtain rfl := eq_of_beq h0
  exact ⟨x, px, iter, ifs, rfl, ok⟩
theorem lc_eq {elt iter : Expr} {x : Str} {px : Pos} {ifs : List Expr} (ok : compOK sc σ sc' x iter = true) : listCompP J sc σ elt [⟨.Name x px, iter, ifs, 0⟩] sc' = (iterP J sc σ iter).bind fun items => (mapOut (compEl J sc' (freeVars sc' σ) x ifs elt) items).bind fun vs => .ok (.list vs) :=
  if_pos (show (true && compOK sc σ sc' x iter) = true from ok)
theorem snd_ListComp (Y : Hy W G n) (SE : SndE W n J) (ST : SndT W n J) (H : Here W n A X sc σ env s) {elt : Expr} {gens : List Comprehension} {pos : Pos} (hne : evE G J sc σ (.ListComp elt gens sc' pos) ≠ .stuck) :
    Ev W A X s (eval (.ListComp elt gens sc' pos) env) (evE G J sc σ (.ListComp elt gens sc' pos)) := by
  have e0 : evE G J sc σ (.ListComp elt gens sc' pos) = listCompP J sc σ elt gens sc' := rfl
  rw [e0] at hne ⊢
  obtain ⟨x, px, iter, ifs, rfl, ok⟩ := lc_is hne
  rw [lc_eq ok] at hne ⊢
  rw [eval_ListComp]
  refine comp_upto (use := none) Y SE ST H ok hne (fun D C s' vs qs m hq h1 h2 h3 t hp hr hn hC => ?_) fun e s' q => q
  obtain ⟨oC, hC, hcC⟩ := hC
  refine ⟨m, hn, fun h' hs' => ?_⟩
  obtain ⟨r, t'⟩ := comp_list H.S h1 h2 h3 t hp hr hC hcC hs'
  exact ⟨_, hq, r, t'⟩
end
theorem among_snoc {pos' pos : Pos} {c cv : Value} (l : List Value) (h : TriplesOk l) : codeAmong pos' (l ++ [rawInt pos.line, rawInt pos.col, c]) = some cv -> codeAmong pos' l = some cv \/ cv = c := by
  fun_induction TriplesOk l with
  | case1 =>
    intro e
    simp only [List.nil_append, codeAmong, rawInt] at e
    split at e
    · cases e; exact .inr rfl
    · cases e
  | case2 a t b u x rest ih =>
    intro e
    simp only [List.cons_append, codeAmong] at e ⊢
    split at e
    · rename_i hc; rw [if_pos hc]; exact .inl e
    · rename_i hc; rw [if_neg hc]; exact ih h e
  | case3 => exact h.elim
section
variable {W : Wd} {h h' : Heap}
theorem Base.keep_nt (B : Base W h) (O : W.Ok) {b : Addr} {o : Obj} (e : W.hB.get? b = some o) (hc : o.cls ≠ .none) : h.get? b = some o :=
  B.old b o e fun x hx q => by
    obtain ⟨o', vs, e', _, hc'⟩ := O.tabB x hx
    rw [q, e] at e'; cases e'
    exact hc hc'
theorem Base.codeHd (B : Base W h) (O : W.Ok) {x : Addr × Addr × Str} (hx : x ∈ W.tabs) : CodeHd h x.1 x.2.1 := by
  obtain ⟨o, vs, file, tf, flags, tg, inF, text, tt, e, r1, r⟩ := O.hd x hx
  exact ⟨o, vs, file, tf, flags, tg, inF, text, tt, B.keep_nt O e (by rw [r1]; exact nofun), r1, r⟩
theorem Base.bat (B : Base W h) (O : W.Ok) {x : Addr × Addr × Str} (hx : x ∈ W.tabs) : h.BuiltinsAt W.mg x.2.1 := by
  obtain ⟨bm, o, a1, a2, a3, a4, a5, a6, r⟩ := O.bat x hx
  exact ⟨bm, o, a1, a2, a3, a4, B.keep_nt O a5 (by rw [a6]; exact nofun), a6, r⟩
theorem Base.grow (B : Base W h) (O : W.Ok) {x : Addr × Addr × Str} (hx : x ∈ W.tabs) {ps : Array Value} {pos : Pos} {c' : Addr} {oc : Obj} (hP : h.get? x.2.1 = some (tabObj ps)) (k : Heap.ExtBut x.2.1 h h') (hs : h.objs.size <= h'.objs.size)
    (hP' : h'.get? x.2.1 = some (tabObj (ps ++ #[rawInt pos.line, rawInt pos.col, .ref c']))) (hrec : h'.CodeRec (.ref c') x.2.2) (hc' : h'.get? c' = some oc) (hcc : oc.cls = .type "code") : Base W h' where
  old := fun b o e f => k b o (fun q => f x hx q.symm) (B.old b o e f)
  tab := fun y hy => by
    obtain ⟨qs, e, t, r⟩ := B.tab y hy
    by_cases hxy : y = x
    · subst hxy
      obtain rfl : qs = ps := by rw [e] at hP; exact congrArg (fun o : Obj => match o.data with | .fields v => v | _ => #[]) (Option.some.inj hP)
      refine ⟨_, hP', by rw [Array.toList_append]; exact TriplesOk_snoc _ _ _ _ t, fun pos' cv hcv => ?_⟩
      rw [Array.toList_append] at hcv
      rcases among_snoc _ t hcv with q | q
      · obtain ⟨⟨c, o, vs, tk, e1, e2, e3, e4⟩, c2, o2, b, d, f⟩ := r pos' cv q
        obtain rfl : c2 = c := by cases b.symm.trans e1; rfl
        obtain rfl : o2 = o := Option.some.inj (d.symm.trans e2)
        have ne : c2 ≠ y.2.1 := fun q => by rw [q, hP] at d; cases d; cases f
        exact ⟨⟨c2, o2, vs, tk, e1, k _ _ ne e2, e3, e4⟩, c2, o2, b, k _ _ ne d, f⟩
      · subst q
        exact ⟨hrec, c', oc, rfl, hc', hcc⟩
    · have hne : y.2.1 ≠ x.2.1 := fun q => hxy (O.apart y hy x hx q)
      refine ⟨qs, k _ _ hne e, t, fun pos' cv hcv => ?_⟩
      obtain ⟨⟨c, o, vs, tk, e1, e2, e3, e4⟩, c2, o2, b, d, f⟩ := r pos' cv hcv
      obtain rfl : c2 = c := by cases b.symm.trans e1; rfl
      obtain rfl : o2 = o := Option.some.inj (d.symm.trans e2)
      have ne : c2 ≠ x.2.1 := fun q => by rw [q, hP] at d; cases d; cases f
      exact ⟨⟨c2, o2, vs, tk, e1, k _ _ ne e2, e3, e4⟩, c2, o2, b, k _ _ ne d, f⟩
  size := Nat.le_trans B.size hs
theorem Step.grow {s : Shared} {Y : Addr -> Prop} {tk : Nat} (B : Base W s.heap) (B' : Base W h') {P : Addr} {ps : Array Value} (hP : s.heap.get? P = some (tabObj ps)) (k : Heap.ExtBut P s.heap h') (hs : s.heap.objs.size <= h'.objs.size) : Step W Y s { s with heap := h', toks := tk } :=
  ⟨fun b o e _ hc => ⟨o.slots, k b o (fun q => by rw [q, hP] at e; cases e; exact hc ⟨rfl, _, rfl⟩) e, fun _ => rfl⟩, B', hs, rfl, rfl,
    fun b o es n e c d => ⟨o, es, n, k b o (fun q => by rw [q, hP] at e; cases e; cases d) e, c, d⟩⟩
end
noncomputable def CodeIs (h : Heap) (cdv : Value) (qual : Str) : Prop := ∃ c o vs tk, cdv = .ref c /\ h.get? c = some o /\ o.cls = .type "code" /\ o.data = .fields vs /\ vs[1]? = some (.str qual tk)
theorem CodeIs.of {h : Heap} {cdv : Value} {qual : Str} {c' : Addr} {oc : Obj} (r : h.CodeRec cdv qual) (e : cdv = .ref c') (g : h.get? c' = some oc) (hc : oc.cls = .type "code") : CodeIs h cdv qual := by
  obtain ⟨c2, o, vs, tk2, e1, e2, e3, e4⟩ := r
  obtain rfl : c2 = c' := by cases e1.symm.trans e; rfl
  cases e2.symm.trans g
  exact ⟨c2, _, vs, tk2, e1, e2, hc, e3, e4⟩
theorem CodeIs.keeps {h h' : Heap} {cdv : Value} {qual : Str} (x : CodeIs h cdv qual) (k : Keeps h h') : CodeIs h' cdv qual := by
  obtain ⟨c2, o, vs, tk2, e1, e2, hc, e3, e4⟩ := x
  exact ⟨c2, o, vs, tk2, e1, k.get e2 id (by rw [hc]; exact nofun) (by rw [hc]; decide), hc, e3, e4⟩
theorem CodeIs.rec {h : Heap} {cdv : Value} {qual : Str} (x : CodeIs h cdv qual) : h.CodeRec cdv qual := by
  obtain ⟨c2, o, vs, tk2, e1, e2, hc, e3, e4⟩ := x
  exact ⟨c2, o, vs, tk2, e1, e2, e3, e4⟩
noncomputable abbrev lamFd (env : Env) (pm cdv ct : Value) (body : Expr) (sc' : Scope) (clos : List (Str × Addr)) : FuncData :=
  { name := "<lambda>", qualname := env.qual ++ "<lambda>", params := ⟨[], [], none, [], [], none, []⟩, body := .expr body, scope := sc', globals := mainGlobals, closure := clos, defaults := .none, kwdefaults := .none, doc := .none, pyModule := pm, annotations := none, code := cdv, closureTuple := ct, builtins := builtinsNs }
section
variable {W : Wd} {n : Nat} {sc sc' : Scope} {σ : Vars} {env : Env} {A : Around} {X : Addr -> Prop} {s s' : Shared} {E : Value -> Shared -> Prop}
theorem lam_make {c P : Addr} {body : Expr} {pos : Pos} {clos : List (Str × Addr)} {Q : Value -> Shared -> Prop} {M : Model} (ok : W.Ok) (B : Base W s.heap) (hcl : closureFor sc' env = pure clos) (hgl : env.globals = mainGlobals) (hcode : env.code = .ref c) (hx : (c, P, env.qual ++ "<lambda>") ∈ W.tabs)
    (h : ∀ s' q pm cdv ct, Step W NoA s s' -> s'.heap.get? q = some { cls := .type "function", data := .func (lamFd env pm cdv ct body sc' clos) } -> CodeIs s'.heap cdv (env.qual ++ "<lambda>") -> s.heap.objs.size <= q -> Q (.ref q) s') :
    wpAny M A (eval (.Lambda ⟨[], [], none, [], [], none, []⟩ body sc' pos) env) Q E s := by
  refine kla_eval rfl ?_
  obtain ⟨ps, hP, ht, hamong⟩ := B.tab _ hx
  have C := B.codeHd ok hx
  have hb := B.bat ok hx
  have hg := ok.nsg B
  have hgP : mainGlobals ≠ P := fun q => (ok.free _ hx).1 q.symm
  cases hf : codeAmong pos ps.toList with
  | some cv =>
    refine kla_makeFunctionHit hcl hgl hg hcode C hP ht hf hb fun ctv h' tk hk hsz => ?_
    have st1 : Step W NoA s { s with heap := h', toks := tk } := Step.of_all B hk hsz
    have st2 : Step W NoA { s with heap := h', toks := tk } { s with heap := h'.push { cls := .type "function", data := .func (kla_fn "<lambda>" (env.qual ++ "<lambda>") ⟨[], [], none, [], [], none, []⟩ body sc' clos ((W.mg "__name__").getD .none) cv ctv) }, toks := tk } := Step.push st1.base
    refine h _ _ _ cv ctv (st1.trans st2) (Heap.get?_push_size _ rfl) ?_ hsz
    obtain ⟨hr, c', oc, g1, g2, g3⟩ := hamong pos cv hf
    obtain ⟨c2, o, vs, tk2, e1, e2, e3, e4, e5⟩ := CodeIs.of hr g1 g2 g3
    exact ⟨c2, o, vs, tk2, e1, Heap.get?_push_of_some _ (hk _ _ e2), e3, e4, e5⟩
  | none =>
    rw [makeFunction_eq]
    simp only [List.zip_nil_right, List.filterMap_nil, List.isEmpty_nil, if_true, pure_bind]
    obtain ⟨bm, ob, hbm, hne0, _, hneP, hbo, hcls, hdict, hdata⟩ := hb
    unfold makeTail
    rw [hcl, hgl]
    refine wpAny_bind (wpAny_pure ?_)
    have done : ∀ (s1 : Shared) (ctv : Value), Step W NoA s s1 -> s1.heap.get? P = some (tabObj ps) -> ∀ c' h' tk, Heap.ExtBut P s1.heap h' -> s1.heap.objs.size <= c' -> c' < h'.objs.size -> h'.CodeRec (.ref c') (env.qual ++ "<lambda>") ->
        h'.TableAt c P (ps ++ #[rawInt pos.line, rawInt pos.col, .ref c']) -> (∃ P', s1.heap.objs.size <= P' /\ h'.IsCode c' P' #[] /\ h'.TableAt c' P' #[]) ->
        Q (.ref h'.objs.size) { s1 with heap := h'.push { cls := .type "function", data := .func (kla_fn "<lambda>" (env.qual ++ "<lambda>") ⟨[], [], none, [], [], none, []⟩ body sc' clos ((W.mg "__name__").getD .none) (.ref c') ctv) }, toks := tk } := by
      intro s1 ctv t1 hP1 c' h' tk hx' hge hlt hrec htb hcd
      obtain ⟨P', _, _, ⟨oc, vs, g1, g2, _⟩, _⟩ := hcd
      have hs1 : s1.heap.objs.size <= h'.objs.size := Nat.le_trans hge (Nat.le_of_lt hlt)
      have B' : Base W h' := Base.grow t1.base ok hx hP1 hx' hs1 htb.2 hrec g1 g2
      have st1 : Step W NoA s1 { s1 with heap := h', toks := tk } := Step.grow t1.base B' hP1 hx' hs1
      have st2 : Step W NoA { s1 with heap := h', toks := tk } { s1 with heap := h'.push { cls := .type "function", data := .func (kla_fn "<lambda>" (env.qual ++ "<lambda>") ⟨[], [], none, [], [], none, []⟩ body sc' clos ((W.mg "__name__").getD .none) (.ref c') ctv) }, toks := tk } := Step.push st1.base
      refine h _ _ _ (.ref c') ctv (t1.trans (st1.trans st2)) (Heap.get?_push_size _ rfl) ?_ (Nat.le_trans t1.size hs1)
      obtain ⟨c2, o, vs, tk2, e1, e2, e3, e4, e5⟩ := CodeIs.of hrec rfl g1 g2
      exact ⟨c2, o, vs, tk2, e1, Heap.get?_push_of_some _ e2, e3, e4, e5⟩
    induction clos using List.casesOn with
    | nil =>
      simp only [List.isEmpty_nil, if_true]
      refine wpAny_bind (wpAny_pure ?_)
      refine wpAny_bind (wpAny_functionCodeX hcode (C.code hP ht) (C.tab hP) hf fun c' h' tk hx' hge hlt _ hrec htb hcd => ?_)
      have hg' := hg.extBut hx' hgP
      refine wpAny_bind (wpAny_builtinsFor hg' hbm hne0 (hx' _ _ hneP hbo) hcls hdict hdata ?_)
      refine wpAny_bind (wpAny_nsGet hg' ?_)
      exact wpAny_bind (wpAny_pure (wpAny_newObj_type (done s .none (Step.refl B) hP c' h' tk hx' hge hlt hrec htb hcd) (by size_fits)))
    | cons q r =>
      simp only [List.isEmpty_cons, Bool.false_eq_true, if_false]
      refine wpAny_bind (wpAny_newTextTuple ?_)
      refine wpAny_bind (wpAny_functionCodeX hcode ((C.keeps fun b o e => Heap.get?_push_of_some _ e).code (Heap.get?_push_of_some _ hP) ht) ((C.keeps fun b o e => Heap.get?_push_of_some _ e).tab (Heap.get?_push_of_some _ hP)) hf fun c' h' tk hx' hge hlt _ hrec htb hcd => ?_)
      have hg' := (hg.push _).extBut hx' hgP
      refine wpAny_bind (wpAny_builtinsFor hg' hbm hne0 (hx' _ _ hneP (Heap.get?_push_of_some _ hbo)) hcls hdict hdata ?_)
      refine wpAny_bind (wpAny_nsGet hg' ?_)
      exact wpAny_bind (wpAny_pure (wpAny_newObj_type (done _ _ (Step.push (tk := s.toks) B) (Heap.get?_push_of_some _ hP) c' h' tk hx' hge hlt hrec htb hcd) (by size_fits)))
end
section
variable {W : Wd} {h h' : Heap} {X Y : Addr -> Prop}
theorem Rep.turnY (hn : ∀ a, Y a -> ∀ o, h.get? a = some o -> NoDatum o) {v : Value} {p : PV} (r : Rep W h X v p) (k : KeepsBut Y h h') : Rep W h' X v p :=
  ((r.apartY hn).keeps k fun a q => .inr q).widen fun a _ q => .inl q
end
noncomputable def RK (W : Wd) (h h' : Heap) : Prop := ∀ X v p, Rep W h X v p -> Rep W h' X v p
structure StepS (W : Wd) (Y : Addr -> Prop) (s s' : Shared) : Prop where
  t : Step W Y s s'
  r : RK W s.heap s'.heap
section
variable {W : Wd} {n : Nat} {sc sc' : Scope} {σ : Vars} {env : Env} {A : Around} {X X' Y : Addr -> Prop} {s s' s'' : Shared} {E : Value -> Shared -> Prop} {L : Addr} {old : Nat}
theorem RK.reps {h h' : Heap} (k : RK W h h') : ∀ {vs : List Value} {ps : List PV}, Reps W h X vs ps -> Reps W h' X vs ps := by
  intro vs
  induction vs with
  | nil => intro ps r; cases r; exact .nil
  | cons v vs ih => intro ps r; cases r with | cons r rs => exact .cons (k _ _ _ r) (ih rs)
theorem StepS.refl (B : Base W s.heap) : StepS W Y s s := ⟨Step.refl B, fun _ _ _ r => r⟩
theorem StepS.trans (x : StepS W Y s s') (y : StepS W Y s' s'') : StepS W Y s s'' := ⟨x.t.trans y.t, fun X v p r => y.r _ _ _ (x.r _ _ _ r)⟩
theorem StepS.of (t : Step W NoA s s') : StepS W Y s s' := ⟨t.no, fun X v p r => r.step t⟩
structure Fra (W : Wd) (sc : Scope) (σ : Vars) (X : Addr -> Prop) (env : Env) (L : Addr) (old : Nat) (h : Heap) : Prop where
  scope : env.scope = sc
  kind : sc.kind = .function
  gl : env.globals = mainGlobals
  bi : env.builtins = builtinsNs
  loc : env.locals = L
  fr : env.frame = some L
  obj : ∃ o es ep, h.get? L = some o /\ o.cls = .type "frame" /\ o.data = .dict es ep
  lo : old <= L
  ns : ∃ m, h.Ns L m /\ ∀ x p, σ.lookup x = some p -> VarAt W X env h m x p
  own : ∀ x, sc.names.lookup x = some .cell -> ∃ c v, env.cells.lookup x = some c /\ h.IsCell c v /\ old <= c /\ c ≠ L /\ (x == ("__classdict__" : Str)) = false
  apart : ∀ x y c, sc.names.lookup x = some .cell -> env.cells.lookup x = some c -> env.cells.lookup y = some c -> y = x
  lam : sc.names.lookup ("_law_heard" : Str) = some .globalImplicit -> ∃ c P, env.code = .ref c /\ (c, P, env.qual ++ "<lambda>") ∈ W.tabs
noncomputable def YF (sc : Scope) (env : Env) (L : Addr) : Addr -> Prop := fun a => a = L \/ ∃ x, sc.names.lookup x = some .cell /\ env.cells.lookup x = some a
theorem Fra.envOK {h : Heap} (F : Fra W sc σ X env L old h) : EnvOK W sc σ X env h where
  kind := by rw [F.scope]; exact F.kind
  gl := F.gl
  bi := F.bi
  ns := by rw [F.loc]; exact F.ns
  glob := fun x hx => by show env.scope.names.lookup x = _; rw [F.scope]; exact hx
  loc := fun x hx => by have : env.scope.names.lookup x = some .local := hx; rw [F.scope] at this; exact this
  lam := F.lam
theorem Fra.yold {h : Heap} (F : Fra W sc σ X env L old h) : ∀ a, YF sc env L a -> old <= a := fun a q => by
  rcases q with rfl | ⟨x, h1, h2⟩
  · exact F.lo
  · obtain ⟨c, v, e, _, r, _⟩ := F.own x h1
    rw [h2] at e; cases e; exact r
theorem Fra.yno {h : Heap} (F : Fra W sc σ X env L old h) : ∀ a, YF sc env L a -> ∀ o, h.get? a = some o -> NoDatum o := fun a q o e => by
  rcases q with rfl | ⟨x, h1, h2⟩
  · obtain ⟨o', es, ep, e', hc, hd⟩ := F.obj
    cases e.symm.trans e'
    exact NoDatum.frame hc hd
  · obtain ⟨c, v, e1, ⟨o', e', hd⟩, _⟩ := F.own x h1
    rw [h2] at e1; cases e1
    cases e.symm.trans e'
    exact NoDatum.cell hd
theorem Fra.stepS {h : Heap} (F : Fra W sc σ X env L old s.heap) (t : Step W (YF sc env L) s s') : StepS W (YF sc env L) s s' := ⟨t, fun X v p r => r.turnY F.yno t.keeps⟩
theorem Fra.step (F : Fra W sc σ X env L old s.heap) (t : Step W Y s s') (hy : ∀ a, Y a -> a ≠ L /\ ∀ v, ¬ s.heap.IsCell a v) (hr : ∀ v p, Rep W s.heap X v p -> Rep W s'.heap X v p) : Fra W sc σ X env L old s'.heap :=
  { F with
    obj := by
      obtain ⟨o, es, ep, e, hc, hd⟩ := F.obj
      obtain ⟨sl, e', _⟩ := t.keeps L o e (fun q => (hy _ q).1 rfl) (fun q => by obtain ⟨q, _⟩ := q; rw [hc] at q; cases q)
      exact ⟨_, es, ep, e', hc, hd⟩
    ns := by
      obtain ⟨m, a, b⟩ := F.ns
      refine ⟨m, ns_keeps a t.keeps fun q => (hy _ q).1 rfl, fun x p e => ?_⟩
      rcases b x p e with ⟨a, v, b, c⟩ | ⟨a, cd, c, v, b, d, e⟩
      · exact .inl ⟨a, v, b, hr _ _ c⟩
      · exact .inr ⟨a, cd, c, v, b, cell_keeps d t.keeps fun q => (hy _ q).2 _ d, hr _ _ e⟩
    own := fun x hx => by
      obtain ⟨c, v, b, d, r⟩ := F.own x hx
      exact ⟨c, v, b, cell_keeps d t.keeps fun q => (hy _ q).2 _ d, r⟩ }
theorem Fra.no (F : Fra W sc σ X env L old s.heap) (t : Step W NoA s s') : Fra W sc σ X env L old s'.heap := F.step t (fun _ f => f.elim) fun v p r => r.step t
theorem VarAt.wid {h : Heap} {m : Str -> Option Value} {x : Str} {p : PV} (hx : ∀ v p, Rep W h X v p -> Rep W h X' v p) (v : VarAt W X env h m x p) : VarAt W X' env h m x p := by
  rcases v with ⟨a, v, b, c⟩ | ⟨a, cd, c, v, b, d, e⟩
  · exact .inl ⟨a, v, b, hx _ _ c⟩
  · exact .inr ⟨a, cd, c, v, b, d, hx _ _ e⟩
theorem Fra.wid {h : Heap} (F : Fra W sc σ X env L old h) (hx : ∀ v p, Rep W h X v p -> Rep W h X' v p) : Fra W sc σ X' env L old h :=
  { F with ns := let ⟨m, a, b⟩ := F.ns; ⟨m, a, fun x p e => (b x p e).wid hx⟩ }
theorem Fra.store {x : Str} {v : Value} {p : PV} {Q : Unit -> Shared -> Prop} {M : Model} (F : Fra W sc σ X env L old s.heap) (B : Base W s.heap) (hB : W.hB.objs.size <= old) (hx : isStored sc x = true) (r : Rep W s.heap X v p)
    (h : ∀ s', StepS W (YF sc env L) s s' -> Fra W sc ((x, p) :: σ) X env L old s'.heap -> Q () s') : wpAny M A (storeName env x v) Q E s := by
  have hkk : ∀ y, env.kindOf y = sc.names.lookup y := fun y => by show env.scope.names.lookup y = _; rw [F.scope]
  have hpp : (env.scope.kind == .class || (env.scope.kind == .module && env.locals != env.globals)) = false := by rw [F.scope, F.kind]; rfl
  obtain ⟨o, es, ep, ho, hc, hd⟩ := F.obj
  obtain ⟨m, hm, hv⟩ := F.ns
  unfold isStored at hx
  rw [Bool.or_eq_true, beq_iff_eq, beq_iff_eq] at hx
  rcases hx with hx | hx
  · have hn0 : s.heap.Ns env.locals m := by rw [F.loc]; exact hm
    refine storeLocal_any ((hkk x).trans hx) hn0 (by rw [F.loc]; exact ho) hd (fun h' es' ep' hn' hs' ho' => ?_) hpp
    rw [F.loc] at hn' hs' ho'
    have t : Step W (YF sc env L) s { s with heap := h', toks := s.toks + 1 } :=
      ⟨(KeepsBut.of_extBut (Y := fun a => a = L) hs'.extBut rfl).mono fun a _ q => .inl q, B.turn ho (Nat.le_trans hB F.lo) (by rw [hc]; exact nofun) (by rw [hc]; decide) hs'.extBut (Nat.le_of_eq hs'.1.symm), Nat.le_of_eq hs'.1.symm, rfl, rfl,
        fun b o2 es2 n2 e c d => by
          by_cases hb : b = L
          · subst hb
            cases e.symm.trans ho
            exact ⟨_, es', ep', ho', hc, rfl⟩
          · exact ⟨o2, es2, n2, hs'.extBut b o2 hb e, c, d⟩⟩
    have tS := F.stepS (h := s.heap) t
    refine h _ tS { F with obj := ⟨_, es', ep', ho', hc, rfl⟩, ns := ⟨_, hn', fun y q hy => ?_⟩, own := fun y hy => ?_ }
    · by_cases hyx : y = x
      · subst hyx
        simp only [List.lookup_cons, beq_self_eq_true, Option.some.injEq] at hy
        subst hy
        exact .inl ⟨(hkk y).trans hx, v, by simp, tS.r _ _ _ r⟩
      · have hb : (y == x) = false := by simpa using hyx
        simp only [List.lookup_cons, hb] at hy
        rcases hv y q hy with ⟨a, u, b, c⟩ | ⟨a, cd, c, u, b, d, e⟩
        · exact .inl ⟨a, u, (if_neg hyx).trans b, tS.r _ _ _ c⟩
        · exact .inr ⟨a, cd, c, u, b, d.sameBut hs' (fun z => by obtain ⟨oo, eo, do'⟩ := d; rw [z, ho] at eo; cases eo; rw [hd] at do'; cases do'), tS.r _ _ _ e⟩
    · obtain ⟨c, u, b, d, r2, r3, r4⟩ := F.own y hy
      exact ⟨c, u, b, d.sameBut hs' r3, r2, r3, r4⟩
  · obtain ⟨c, u, hcl, hcell, hco, hcL, hcd⟩ := F.own x hx
    have hcell' := hcell
    obtain ⟨oc, eoc, doc⟩ := hcell
    refine wpAny_storeName_cell (by rw [F.scope]; exact F.kind) ((hkk x).trans hx) hcl hcell' fun h' hcell2 hs' => ?_
    have t : Step W (YF sc env L) s { s with heap := h' } :=
      ⟨(KeepsBut.of_extBut (Y := fun a => a = c) hs'.extBut rfl).mono fun a _ q => .inr ⟨x, hx, q ▸ hcl⟩, B.extBut eoc (Nat.le_trans hB hco) (fun vs q => by rw [doc] at q; cases q) hs'.extBut (Nat.le_of_eq hs'.1.symm), Nat.le_of_eq hs'.1.symm, rfl, rfl,
        fun b o2 es2 n2 e c2 d => ⟨o2, es2, n2, hs'.extBut b o2 (fun z => by rw [z, eoc] at e; cases e; rw [doc] at d; cases d) e, c2, d⟩⟩
    have tS := F.stepS (h := s.heap) t
    refine h _ tS { F with obj := ⟨o, es, ep, hs'.extBut _ _ (Ne.symm hcL) ho, hc, hd⟩, ns := ⟨m, hm.sameBut hs' (Ne.symm hcL), fun y q hy => ?_⟩, own := fun y hy => ?_ }
    · by_cases hyx : y = x
      · subst hyx
        simp only [List.lookup_cons, beq_self_eq_true, Option.some.injEq] at hy
        subst hy
        exact .inr ⟨.inl ((hkk y).trans hx), hcd, c, v, hcl, hcell2, tS.r _ _ _ r⟩
      · have hb : (y == x) = false := by simpa using hyx
        simp only [List.lookup_cons, hb] at hy
        rcases hv y q hy with ⟨a, u2, b, c2⟩ | ⟨a, cd, c2, u2, b, d, e⟩
        · exact .inl ⟨a, u2, b, tS.r _ _ _ c2⟩
        · exact .inr ⟨a, cd, c2, u2, b, d.sameBut hs' (fun z => hyx (F.apart x y c hx hcl (z ▸ b))), tS.r _ _ _ e⟩
    · obtain ⟨c2, u2, b, d, r2, r3, r4⟩ := F.own y hy
      by_cases hyx : y = x
      · subst hyx
        rw [hcl] at b; cases b
        exact ⟨c, _, hcl, hcell2, hco, hcL, hcd⟩
      · exact ⟨c2, u2, b, d.sameBut hs' (fun z => hyx (F.apart x y c hx hcl (z ▸ b))), r2, r3, r4⟩
end
section
variable {W : Wd} {G : Gl} {n : Nat} {J : I} {sc sc' : Scope} {σ : Vars} {env : Env} {A : Around} {X X' Y : Addr -> Prop} {s s' s'' : Shared} {E : Value -> Shared -> Prop} {L : Addr} {old : Nat}
noncomputable abbrev BPost (W : Wd) (X : Addr -> Prop) (sc : Scope) (env : Env) (L : Addr) (old : Nat) (s : Shared) (r : Out Res) (f : Flow) (s' : Shared) : Prop :=
  (∃ σ', r = .ok (.next σ') /\ f = .next /\ Fra W sc σ' X env L old s'.heap /\ StepS W (YF sc env L) s s') \/
  (∃ p v, r = .ok (.ret p) /\ f = .ret v /\ Rep W s'.heap X v p /\ StepS W (YF sc env L) s s')
noncomputable abbrev BEpost {α : Type} (W : Wd) (X : Addr -> Prop) (L : Addr) (old : Nat) (s : Shared) (r : Out α) (e : Value) (s' : Shared) : Prop :=
  ∃ pa, r = .err pa /\ Exc W s'.heap X old (Fl1 L) e pa /\ Step W (fun a => old <= a) s s'
structure Run (W : Wd) (n : Nat) (A : Around) (X : Addr -> Prop) (sc : Scope) (σ : Vars) (env : Env) (L : Addr) (old : Nat) (s : Shared) : Prop where
  S : Sit W n A X s
  T : AtTop A env
  F : Fra W sc σ X env L old s.heap
  B : W.hB.objs.size <= old
  O : old <= s.heap.objs.size
noncomputable def SndB (W : Wd) (n : Nat) (J : I) : Prop := ∀ sc σ b env A X s L old, Run W n A X sc σ env L old s -> J.b sc σ b ≠ .stuck ->
  wpAny (model W.prog W.w) A (execs b env) (BPost W X sc env L old s (J.b sc σ b)) (BEpost W X L old s (J.b sc σ b)) s
theorem cellsFrom_some {x : Str} : ∀ (names : List (Str × NameKind)) (k : Nat) (acc : List (Str × Addr)), ((acc.lookup x).isSome = true \/ (x, NameKind.cell) ∈ names) -> ((cellsFrom k names acc).lookup x).isSome = true
  | [], k, acc, h => by
    rcases h with h | h
    · exact h
    · cases h
  | (a, kd) :: r, k, acc, h => by
    unfold cellsFrom
    by_cases hk : (kd == NameKind.cell) = true
    · rw [if_pos hk]
      apply cellsFrom_some r
      by_cases hx : x = a
      · subst hx; exact .inl (by simp [List.lookup_cons])
      · have hb : (x == a) = false := by simpa using hx
        rcases h with h | h
        · exact .inl (by rw [List.lookup_cons, hb]; exact h)
        · rcases List.mem_cons.mp h with q | q
          · exact absurd (congrArg Prod.fst q) hx
          · exact .inr q
    · rw [if_neg hk]
      apply cellsFrom_some r
      rcases h with h | h
      · exact .inl h
      · rcases List.mem_cons.mp h with q | q
        · cases q; exact absurd rfl hk
        · exact .inr q
inductive Binds (W : Wd) (h : Heap) (X : Addr -> Prop) : List (Str × Value) -> List (Str × PV) -> Prop
  | nil : Binds W h X [] []
  | cons {x : Str} {v : Value} {p : PV} {vs : List (Str × Value)} {ps : List (Str × PV)} (r : Rep W h X v p) (rs : Binds W h X vs ps) : Binds W h X ((x, v) :: vs) ((x, p) :: ps)
theorem Binds.re {h h' : Heap} (k : RK W h h') : ∀ {vs : List (Str × Value)} {ps : List (Str × PV)}, Binds W h X vs ps -> Binds W h' X vs ps := by
  intro vs ps r
  induction r with
  | nil => exact .nil
  | cons r _ ih => exact .cons (k _ _ _ r) ih
theorem Binds.zip {h : Heap} : ∀ {xs : List Str} {vs : List Value} {ps : List PV}, Reps W h X vs ps -> Binds W h X (xs.zip vs) (xs.zip ps) := by
  intro xs
  induction xs with
  | nil => intro vs ps r; exact .nil
  | cons x xs ih =>
    intro vs ps r
    induction r using Reps.casesOn with
    | nil => exact .nil
    | cons r rs => exact .cons r (ih rs)
theorem bind_params {M : Model} (f : Str × Value -> PUnit -> Sem (ForInStep PUnit)) (hf : ∀ n v u, f (n, v) u = (do storeName env n v; pure (.yield ⟨⟩))) (hB : W.hB.objs.size <= old) :
    ∀ (binds : List (Str × Value)) (args : List (Str × PV)) (σ : Vars) (s : Shared) (Q : PUnit -> Shared -> Prop), Fra W sc σ X env L old s.heap -> Base W s.heap -> Binds W s.heap X binds args -> (∀ x ∈ binds, isStored sc x.1 = true) ->
      (∀ s', StepS W (YF sc env L) s s' -> Fra W sc (args.reverse ++ σ) X env L old s'.heap -> Q ⟨⟩ s') -> wpAny M A (forIn binds ⟨⟩ f) Q E s
  | [], args, σ, s, Q, F, B, b, _, h => by
    rw [List.forIn_nil]
    cases b
    exact wpAny_pure (h s (StepS.refl B) F)
  | (x, v) :: r, args, σ, s, Q, F, B, b, hs, h => by
    rw [List.forIn_cons, hf]
    cases b with
    | cons rv rs =>
    rename_i p ps
    refine wpAny_bind (wpAny_bind (F.store B hB (hs _ (.head _)) rv fun s1 t1 F1 => wpAny_pure (bind_params f hf hB r ps ((x, p) :: σ) s1 Q F1 t1.t.base (rs.re t1.r) (fun y hy => hs y (.tail _ hy)) fun s2 t2 F2 => h s2 (t1.trans t2) ?_)))
    simpa using F2
theorem enter_fn {M : Model} {binds : List (Str × Value)} {args : List (Str × PV)} {qual : Str} {func : Option Addr} {code : Value} {Q : Env -> Shared -> Prop} (B : Base W s.heap) (hk : sc.kind = .function)
    (hst : ∀ x ∈ binds, isStored sc x.1 = true) (hcd : ∀ x, sc.names.lookup x = some .cell -> (x == ("__classdict__" : Str)) = false) (hfree : ∀ x, sc.names.lookup x ≠ some .free)
    (hlam : sc.names.lookup ("_law_heard" : Str) = some .globalImplicit -> ∃ c P, code = .ref c /\ (c, P, qual ++ "<lambda>") ∈ W.tabs) (hb : Binds W s.heap X binds args)
    (h : ∀ env s', env.frame = some s.heap.objs.size -> env.scope = sc -> Step W (fun a => s.heap.objs.size <= a) s s' -> Fra W sc (args.reverse) X env s.heap.objs.size s.heap.objs.size s'.heap -> s.heap.objs.size < s'.heap.objs.size -> Q env s') :
    wpAny M A (newFunctionEnv sc mainGlobals [] binds qual func code none builtinsNs) Q E s := by
  simp only [newFunctionEnv, Option.isSome_none, Bool.false_eq_true, if_false]
  refine wpAny_bind (wpAny_alloc ?_)
  refine wpAny_bind (wpAny_layCells _ (fun name kind cells => by cases hkc : kind == NameKind.cell <;> simp [hkc]) _ _ _ _ ?_)
  have ok := cellsFrom_ok sc.names (s.heap.push { cls := .type "frame", data := .dict #[] }) (s.heap.objs.size + 1) [] ⟨fun _ _ hm => (nomatch hm), List.Pairwise.nil⟩ (by rw [Heap.size_push]; exact Nat.le_refl _)
  have hL0 := pushCells_keeps sc.names _ _ _ (Heap.get?_push_size s.heap (o := { cls := .type "frame", data := .dict #[] }) rfl)
  have hns0 : (pushCells (s.heap.push { cls := .type "frame", data := .dict #[] }) sc.names).Ns s.heap.objs.size fun _ => none := (Heap.Ns.new s.heap (.type "frame")).keeps (pushCells_keeps _ _)
  have keep0 : ∀ b o, s.heap.get? b = some o -> (pushCells (s.heap.push { cls := .type "frame", data := .dict #[] }) sc.names).get? b = some o := fun b o e => pushCells_keeps _ _ b o (Heap.get?_push_of_some _ e)
  have size0 : s.heap.objs.size < (pushCells (s.heap.push { cls := .type "frame", data := .dict #[] }) sc.names).objs.size := Heap.lt_size hL0
  rw [Heap.size_push] at ok
  rw [show ({ s with heap := s.heap.push { cls := .type "frame", data := .dict #[] } } : Shared).heap.objs.size = s.heap.objs.size + 1 from Heap.size_push ..]
  generalize hH : pushCells (s.heap.push { cls := .type "frame", data := .dict #[] }) sc.names = H at ok hL0 hns0 keep0 size0 ⊢
  have t0 : Step W NoA s { s with heap := H } := Step.of_all (tk := s.toks) B keep0 (Nat.le_of_lt size0)
  have F0 : Fra W sc [] X { scope := sc, locals := s.heap.objs.size, globals := mainGlobals, cells := cellsFrom (s.heap.objs.size + 1) sc.names [], qual, func, code, frame := some s.heap.objs.size, builtins := builtinsNs } s.heap.objs.size s.heap.objs.size H :=
    { scope := rfl, kind := hk, gl := rfl, bi := rfl, loc := rfl, fr := rfl, obj := ⟨_, _, _, hL0, rfl, rfl⟩, lo := Nat.le_refl _, ns := ⟨_, hns0, fun x p e => by cases e⟩,
      own := fun x hx => by
        obtain ⟨c, hc⟩ := Option.isSome_iff_exists.mp (cellsFrom_some (x := x) sc.names (s.heap.objs.size + 1) [] (.inr (mem_of_lookup hx)))
        obtain ⟨z1, z2⟩ := ok.empty x c (mem_of_lookup hc)
        exact ⟨c, none, hc, z1, Nat.le_of_succ_le z2, Nat.ne_of_gt z2, hcd x hx⟩
      apart := fun x y c hx h1 h2 => name_of_addr ok.apart (mem_of_lookup h2) (mem_of_lookup h1)
      lam := hlam }
  refine wpAny_bind (bind_params (env := { scope := sc, locals := s.heap.objs.size, globals := mainGlobals, cells := cellsFrom (s.heap.objs.size + 1) sc.names [], qual, func, code, frame := some s.heap.objs.size, builtins := builtinsNs }) _ (fun _ _ _ => rfl) B.size binds args [] { s with heap := H } _ F0 t0.base (hb.re fun X v p r => r.step t0) hst fun s1 t1 F1 => wpAny_pure ?_)
  rw [List.append_nil] at F1
  exact h _ s1 rfl rfl (t0.no.trans (t1.t.mono fun a _ q => F0.yold a q)) F1 (Nat.lt_of_lt_of_le size0 t1.t.size)
end
section
variable {W : Wd} {G : Gl} {n : Nat} {J : I} {sc sc' : Scope} {σ : Vars} {env : Env} {A : Around} {X X' Y : Addr -> Prop} {s s' s'' : Shared} {E : Value -> Shared -> Prop} {L : Addr} {old : Nat}
structure FnScope (sc : Scope) : Prop where
  kind : sc.kind = .function
  co : sc.isCoroutine = false
  gen : sc.isGenerator = false
  cd : ∀ x, sc.names.lookup x = some .cell -> (x == ("__classdict__" : Str)) = false
theorem leave_exc {l : List Env} {s3 : Shared} {e : Value} {pa : PV} {Q : Unit -> Shared -> Prop} {M : Model} (hA : A.frames = some l) (St : Stk W l s.heap) (t : Step W (fun a => s.heap.objs.size <= a) s s3) (hk : env.scope.kind = .function) (hf : env.frame = some s.heap.objs.size)
    (hobj : ∃ o es ep, s3.heap.get? s.heap.objs.size = some o /\ o.cls = .type "frame" /\ o.data = .dict es ep) (hB : W.hB.objs.size <= s.heap.objs.size)
    (hx : Exc W s3.heap X s.heap.objs.size (Fl1 s.heap.objs.size) e pa) (h : ∀ s4, Step W NoA s s4 -> Exc W s4.heap X s.heap.objs.size Fl0 e pa -> Q () s4) : wpAny M (A.deeper env) (leaving env e) Q E s3 := by
  obtain ⟨o, es, ep, ho, hc, hd⟩ := hobj
  have hfr : (A.deeper env).frames = some (env :: l) := by show A.frames.map _ = _; rw [hA]; rfl
  have St3 : Stk W (env :: l) s3.heap := fun z hz => by
    rcases List.mem_cons.mp hz with rfl | hz
    · exact ⟨hk, _, o, es, ep, hf, hB, ho, hc, hd⟩
    · exact (St.step t.fr) z hz
  refine wpAny_mono (exc_leaving (E := E) hfr St3 hf hf t.base hx hB t.size) (fun _ s4 q => ?_) fun _ _ q => q
  exact h s4 ((t.trans q.2).mono fun a ha z => absurd ha (Nat.not_lt.mpr z)) (q.1.flow fun o z => .inr z)
theorem fn_call (ok : W.Ok) (SB : SndB W n J) (S : Sit W (n + 1) A X s) {a : Addr} {o : Obj} {fd : FuncData} {body : List Stmt} {vals : List Value} {binds : List (Str × Value)} {args : List (Str × PV)}
    (ho : s.heap.get? a = some o) (hd : o.data = .func fd) (hgl : fd.globals = mainGlobals) (hcl : fd.closure = []) (hbi : fd.builtins = builtinsNs) (hbody : fd.body = .stmts body) (hrec : s.heap.CodeRec fd.code fd.qualname)
    (FS : FnScope fd.scope) (hfree : ∀ x, fd.scope.names.lookup x ≠ some .free) (hbt : BindsTo s fd ⟨vals, []⟩ binds) (hb : Binds W s.heap X binds args) (hst : ∀ x ∈ binds, isStored fd.scope x.1 = true)
    (hlam : fd.scope.names.lookup ("_law_heard" : Str) = some .globalImplicit -> ∃ c P, fd.code = .ref c /\ (c, P, fd.qualname ++ ".<locals>." ++ "<lambda>") ∈ W.tabs)
    (hne : (J.b fd.scope args.reverse body).bind toRet ≠ .stuck) : Ev W A X s (call (.ref a) vals) ((J.b fd.scope args.reverse body).bind toRet) := by
  obtain ⟨l, hA, St⟩ := S.fr
  refine wpAny_call (codeAny_call_function S.room.dep ho hd FS.co FS.gen hbody hrec (hbt _ _ _ _ ?_))
  rw [hgl, hcl, hbi]
  refine enter_fn (X := X) S.base FS.kind hst FS.cd hfree hlam hb fun env s1 hf hsc t1 F hlt => ⟨ok.lim t1.base, codeAny_func ?_⟩
  have fin : ∀ s3, Step W (fun a => s.heap.objs.size <= a) s s3 -> Step W NoA s s3 := fun s3 t => t.mono fun a ha z => absurd ha (Nat.not_lt.mpr z)
  have R1 : Run W n (A.deeper env) X fd.scope args.reverse env s.heap.objs.size s.heap.objs.size s1 :=
    ⟨⟨t1.base, S.room.deeper env, S.hand, ⟨env :: l, by show A.frames.map _ = _; rw [hA]; rfl, fun z hz => by
        rcases List.mem_cons.mp hz with rfl | hz
        · obtain ⟨o, es, ep, a1, a2, a3⟩ := F.obj
          exact ⟨by rw [hsc]; exact FS.kind, _, o, es, ep, hf, S.base.size, a1, a2, a3⟩
        · exact (St.step t1.fr) z hz⟩, fun a q => Nat.lt_of_lt_of_le (S.priv a q) t1.size⟩,
      ⟨env, l, _, by show A.frames.map _ = _; rw [hA]; rfl, hf, hf⟩, F, S.base.size, t1.size⟩
  refine wpAny_mono (SB _ _ body env _ X s1 _ _ R1 (bind_ne hne)) (fun f s2 q => ?_) fun e s2 q => ?_
  · rcases q with ⟨σ', e1, rfl, F2, t2⟩ | ⟨p, v, e1, rfl, r2, t2⟩
    · exact ⟨.none, by rw [e1]; rfl, .none, fin _ (t1.trans (t2.t.mono fun a _ q => F.yold a q))⟩
    · exact ⟨p, by rw [e1]; rfl, r2, fin _ (t1.trans (t2.t.mono fun a _ q => F.yold a q))⟩
  · obtain ⟨pa, e1, x, t2⟩ := q
    have t := t1.trans t2
    obtain ⟨o, es, ep, a1, a2, a3⟩ := F.obj
    obtain ⟨o', es', ep', b1, b2, b3⟩ := t2.fr _ o es ep a1 a2 a3
    exact leave_exc hA St t (by rw [hsc]; exact FS.kind) hf ⟨o', es', ep', b1, b2, b3⟩ S.base.size x fun s4 t4 x4 => ⟨pa, by rw [e1]; rfl, x4, t4⟩
end
section
variable {W : Wd} {G : Gl} {n : Nat} {J : I} {sc sc' : Scope} {σ : Vars} {env : Env} {A : Around} {X X' Y : Addr -> Prop} {s s' s'' : Shared} {E : Value -> Shared -> Prop} {L : Addr} {old : Nat}
structure LamFacts (sc : Scope) (σ : Vars) (sc' : Scope) : Prop where
  kind : sc'.kind = .function
  co : sc'.isCoroutine = false
  gen : sc'.isGenerator = false
  noL : sc'.names.lookup ("_law_heard" : Str) = none
  cell : ∀ y ∈ sc'.names, y.2 ≠ .cell
  free : ∀ y ∈ sc'.names, y.2 = .free -> (σ.lookup y.1).isSome = true /\ sc.names.lookup y.1 ≠ some .local /\ (y.1 == ("__classdict__" : Str)) = false
theorem lamOK_facts (h : lamOK sc σ sc' = true) : LamFacts sc σ sc' := by
  unfold lamOK at h
  simp only [Bool.and_eq_true] at h
  obtain ⟨⟨⟨⟨h1, h2⟩, h3⟩, h4⟩, h5⟩ := h
  have h6 := List.all_eq_true.mp h5
  refine ⟨by simpa using h1, by simpa using h2, by simpa using h3, by simpa using h4, fun y hy => ?_, fun y hy hf => ?_⟩
  · have := h6 y hy
    simp only [Bool.and_eq_true, bne_iff_ne] at this
    exact this.1
  · have := h6 y hy
    simp only [Bool.and_eq_true, Bool.or_eq_true, bne_iff_ne] at this
    rcases this.2 with q | q
    · exact absurd hf q
    · exact ⟨q.1.1, q.1.2, by simpa using q.2⟩
theorem newLamEnv {M : Model} {closure : List (Str × Addr)} {qual : Str} {func : Option Addr} {code : Value} {Q : Env -> Shared -> Prop} (hc : ∀ x ∈ sc.names, x.2 ≠ .cell)
    (h : Q { scope := sc, locals := s.heap.objs.size, globals := mainGlobals, cells := closure, qual, func, code, frame := some s.heap.objs.size, builtins := builtinsNs } { s with heap := s.heap.push { cls := .type "frame", data := .dict #[] } }) :
    wpAny M A (newFunctionEnv sc mainGlobals closure [] qual func code none builtinsNs) Q E s := by
  simp only [newFunctionEnv, Option.isSome_none, Bool.false_eq_true, if_false]
  refine wpAny_bind (wpAny_alloc ?_)
  rw [forIn_yield_id closure (fun x hx c => by
    obtain ⟨name, kind⟩ := x
    have : (kind == NameKind.cell) = false := by simpa using hc _ hx
    simp only [this, Bool.false_eq_true, if_false])]
  exact wpAny_bind (wpAny_pure (wpAny_bind (wpAny_pure (wpAny_pure h))))
theorem lam_call (ok : W.Ok) (SE : SndE W n J) (S : Sit W (n + 1) A X s) (O : EnvOK W sc σ X env s.heap) (F : LamFacts sc σ sc') {q : Addr} {pm cdv ct : Value} {body : Expr}
    (ho : s.heap.get? q = some { cls := .type "function", data := .func (lamFd env pm cdv ct body sc' (clOf env sc'.names [])) }) (hrec : s.heap.CodeRec cdv (env.qual ++ "<lambda>"))
    (hne : J.e sc' (freeVars sc' σ) body ≠ .stuck) : Ev W A X s (call (.ref q) []) (J.e sc' (freeVars sc' σ) body) := by
  obtain ⟨l, hA, St⟩ := S.fr
  refine wpAny_call (kla_callFunE S.room.dep ho rfl F.co F.gen rfl hrec ?_)
  refine wpAny_of_eq (a := []) rfl ?_
  refine newLamEnv F.cell ⟨(ok.lim S.base).push _, ?_⟩
  have hL := Heap.get?_push_size s.heap (o := { cls := .type "frame", data := .dict #[] }) rfl
  have hns : (s.heap.push { cls := .type "frame", data := .dict #[] }).Ns s.heap.objs.size fun _ => none := Heap.Ns.new s.heap (.type "frame")
  have t1 : Step W NoA s { s with heap := s.heap.push { cls := .type "frame", data := .dict #[] } } := Step.push (tk := s.toks) S.base
  obtain ⟨env', he⟩ : ∃ env' : Env, env' = { scope := sc', locals := s.heap.objs.size, globals := mainGlobals, cells := clOf env sc'.names [], qual := (env.qual ++ "<lambda>") ++ ".<locals>.", func := some q, code := cdv, frame := some s.heap.objs.size, builtins := builtinsNs } := ⟨_, rfl⟩
  have hfr : env'.frame = some s.heap.objs.size := by rw [he]
  have hk : env'.scope.kind = .function := by rw [he]; exact F.kind
  have H1 : Here W n (A.deeper env') X sc' (freeVars sc' σ) env' { s with heap := s.heap.push { cls := .type "frame", data := .dict #[] } } := by
    refine ⟨⟨t1.base, S.room.deeper env', S.hand, ⟨env' :: l, by show A.frames.map _ = _; rw [hA]; rfl, fun z hz => ?_⟩, fun a q => Nat.lt_of_lt_of_le (S.priv a q) t1.size⟩, ⟨env', l, _, by show A.frames.map _ = _; rw [hA]; rfl, hfr, hfr⟩, ?_⟩
    · rcases List.mem_cons.mp hz with rfl | hz
      · exact ⟨hk, _, _, _, _, hfr, S.base.size, hL, rfl, rfl⟩
      · exact (St.step t1.fr) z hz
    · have kf : ∀ y, env'.kindOf y = sc'.names.lookup y := fun y => by rw [he]; rfl
      refine ⟨hk, by rw [he], by rw [he], ⟨_, by rw [he]; exact hns, fun y p hy => ?_⟩, fun y hy => (kf y).trans hy, fun y hy => (kf y).symm.trans hy, fun z => by rw [F.noL] at z; cases z⟩
      obtain ⟨g1, g2⟩ := freeVars_lookup hy
      obtain ⟨_, f2, f3⟩ := F.free _ (mem_of_lookup g2) rfl
      obtain ⟨m0, _, b⟩ := O.ns
      rcases b y p g1 with ⟨a, _⟩ | ⟨a, cd, c, u, b, d, e⟩
      · exact absurd (O.loc y a) f2
      · exact .inr ⟨.inr ((kf y).trans g2), cd, c, u, by rw [he]; exact clOf_lookup env y c b _ _ (.inr ⟨rfl, mem_of_lookup g2⟩), cell_keeps d t1.keeps id, e.step t1⟩
  have main : codeAny (model W.prog W.w) A (.expr body env') (fun r s' => match r with | .ok (.ret v) => Post W s (RV W X) (J.e sc' (freeVars sc' σ) body) v s' | .ok _ => False | .error e => Epost W X s (J.e sc' (freeVars sc' σ) body) e s') { s with heap := s.heap.push { cls := .type "frame", data := .dict #[] } } := by
    refine kla_codeExpr (wpAny_mono (SE.at H1 hne) (fun v s2 z => Post.back t1 z) fun e s2 z => ?_)
    obtain ⟨pa, e1, x, t2⟩ := z
    obtain ⟨o', es', ep', b1, b2, b3⟩ := t2.fr _ _ _ _ hL rfl rfl
    refine leave_exc hA St (t1.trans t2).no hk hfr ⟨o', es', ep', b1, b2, b3⟩ S.base.size ((x.mono t1.size fun o z => z).flow fun o z => ?_) fun s4 t4 x4 => ⟨pa, e1, x4, t4⟩
    rcases z with z | z
    · exact .inl z
    · exact .inr (.inl z)
  rw [he] at main
  exact main
theorem snd_heard (Y : Hy W G n) (SE : SndE W n J) (H : Here W (n + 3) A X sc σ env s) {f : Str} {np pos : Pos} {args : List Expr} (ht : topName sc σ f = true) (hf : (f == ("_law_heard" : Str)) = true) (hne : heardP J sc σ args ≠ .stuck) :
    Ev W A X s (eval (.Call (.Name f np) args [] pos) env) (heardP J sc σ args) := by
  obtain ⟨g1, g2, g3⟩ := topName_spec ht
  obtain rfl : f = "_law_heard" := by simpa using hf
  obtain ⟨e, rfl⟩ := only_is hne
  obtain ⟨⟨ar, body, sc'⟩, hl⟩ := onSome_is (o := vLam e) hne
  obtain ⟨lp, rfl⟩ := vLam_eq hl
  have hb := onTrue_is (b := bareA ar && lamOK sc σ sc') hne
  rw [Bool.and_eq_true] at hb
  have hc := hb.2
  obtain rfl := bareA_eq hb.1
  have e0 : heardP J sc σ [.Lambda ⟨[], [], none, [], [], none, []⟩ body sc' lp] = heardOut (J.e sc' (freeVars sc' σ) body) := by
    show onTrue (true && lamOK sc σ sc') (heardOut (J.e sc' (freeVars sc' σ) body)) = _
    rw [hc]; rfl
  rw [e0] at hne ⊢
  have F := lamOK_facts hc
  have hr : J.e sc' (freeVars sc' σ) body ≠ .stuck := fun q => hne (by rw [q]; rfl)
  obtain ⟨fv, hfv, FO⟩ := Y.heard
  obtain ⟨c, P, hcode, hx⟩ := H.O.lam g2
  refine wpAny_Call_ofName (wpAny_Name (loadName_glob Y.ok H.S.base H.O g2 hfv ?_) g3)
  refine callWith_fn (P := W.K.In) rfl (keeper_of (FO (n + 1)).kp) (wpAny_items_cons ?_ rfl)
  refine lam_make (clos := clOf env sc'.names []) Y.ok H.S.base (closure_is fun p hp hf => ?_) H.O.gl hcode hx fun s1 q pm cdv ct t1 hq hrec hqs => ?_
  · obtain ⟨f1, f2, _⟩ := F.free p hp hf
    obtain ⟨c, hc⟩ := H.O.cells f1 f2
    rw [hc]; rfl
  · refine wpAny_items_nil ⟨Y.ok.inK t1.base, ?_⟩
    refine rb t1 ((FO (n + 1)).run A X s1 q _ _ (H.S.step t1) ⟨_, _, _, _, hq⟩ (fun A' s2 S2 t2 => ?_) hr)
    have hq2 : s2.heap.get? q = some _ := t2.keeps.get hq id nofun (by show Value.type "function" ≠ _; decide)
    exact lam_call Y.ok SE S2 (H.O.step (t1.trans t2).keeps) F hq2 (hrec.keeps t2.keeps).rec hr
end
section
variable {W : Wd} {G : Gl} {n : Nat} {J : I} {sc sc' : Scope} {σ : Vars} {env : Env} {A : Around} {X X' Y : Addr -> Prop} {s s' s'' : Shared} {E : Value -> Shared -> Prop} {L : Addr} {old : Nat}
theorem out_assoc {α β γ : Type} (x : Out α) (f : α -> Out β) (g : β -> Out γ) : (x.bind f).bind g = x.bind fun a => (f a).bind g := by cases x <;> rfl
theorem Sit.less {m : Nat} (S : Sit W n A X s) (h : m <= n) : Sit W m A X s := { S with room := S.room.less h }
theorem Here.less {m : Nat} (H : Here W n A X sc σ env s) (h : m <= n) : Here W m A X sc σ env s := ⟨H.S.less h, H.T, H.O⟩
theorem FnOK.up {fv : Value} {F : List PV -> Out PV} (O : FnOK W n fv F) {m : Nat} (h : n <= m) : FnOK W m fv F := ⟨O.kp, fun A X s vs ps S r hne => O.run A X s vs ps (S.less h) r hne⟩
theorem Hy.up (Y : Hy W G n) {m : Nat} (h : n <= m) : Hy W G m where
  ok := Y.ok
  gc := Y.gc
  D := fun f F e => let ⟨fv, a, b⟩ := Y.D f F e; ⟨fv, a, b.up h⟩
  attr := fun A X s v p name q expr E S => Y.attr A X s v p name q expr E (S.less h)
  told := let ⟨fv, a, b⟩ := Y.told; ⟨fv, a.up h, fun A X s v c d r o i m pl E S => b A X s v c d r o i m pl E (S.less h)⟩
  range := Y.range
  zip := Y.zip
  sub := Y.sub
  typ := Y.typ
  exc := let ⟨cv, a, b, c⟩ := Y.exc; ⟨cv, a, b, fun A X s vs ps pa E S => c A X s vs ps pa E (S.less h)⟩
  heard := Y.heard
theorem snd_Call (Y : Hy W G n) (SE : SndE W n J) (H : Here W (n + 3) A X sc σ env s) {fn : Expr} {args : List Expr} {kws : List Keyword} {pos : Pos} (hne : evE G J sc σ (.Call fn args kws pos) ≠ .stuck) :
    Ev W A X s (eval (.Call fn args kws pos) env) (evE G J sc σ (.Call fn args kws pos)) := by
  have e0 : evE G J sc σ (.Call fn args kws pos) = callP G J sc σ fn args kws pos := rfl
  rw [e0] at hne ⊢
  have H0 : Here W n A X sc σ env s := H.less (by omega)
  obtain rfl := onNil_is hne
  cases hf : vName fn with
  | some f =>
    obtain ⟨np, rfl⟩ := vName_eq hf
    have hc := ite_is (show (if (topName sc σ f && !args.any isStar) = true then (if (f == "_law_heard") = true then heardP J sc σ args else onSome (G.D f) fun F => (evList J sc σ args).bind F) else .stuck) ≠ .stuck from hne)
    have e1 : callP G J sc σ (.Name f np) args [] pos = if (f == "_law_heard") = true then heardP J sc σ args else onSome (G.D f) fun F => (evList J sc σ args).bind F := if_pos hc
    rw [e1] at hne ⊢
    rw [Bool.and_eq_true] at hc
    by_cases hh : (f == "_law_heard") = true
    · rw [if_pos hh] at hne ⊢
      exact snd_heard Y SE H hc.1 hh hne
    · rw [if_neg hh] at hne ⊢
      obtain ⟨F, hF⟩ := onSome_is hne
      rw [hF] at hne ⊢
      obtain ⟨fv, g, FO⟩ := Y.D f F hF
      obtain ⟨g1, g2, g3⟩ := topName_spec hc.1
      refine wpAny_Call_ofName (wpAny_Name (loadName_glob Y.ok H.S.base H.O g2 g ?_) g3)
      exact snd_call Y.ok SE H0 FO ((Bool.not_eq_true' _).mp hc.2) hne
  | none =>
    have e1 : callP G J sc σ fn args [] pos = onSome (vAtt fn) fun q => if isNull q.1 || !(q.2.2.endLine == pos.line) then .stuck else methCallP J sc σ q.1 q.2.1 args := by
      show (match vName fn with
        | some f => if (topName sc σ f && !args.any isStar) = true then (if (f == "_law_heard") = true then heardP J sc σ args else onSome (G.D f) fun F => (evList J sc σ args).bind F) else .stuck
        | none => onSome (vAtt fn) fun q => if isNull q.1 || !(q.2.2.endLine == pos.line) then .stuck else methCallP J sc σ q.1 q.2.1 args) = _
      rw [hf]
    rw [e1] at hne ⊢
    obtain ⟨⟨o, name, ap⟩, ha⟩ := onSome_is hne
    obtain rfl := vAtt_eq ha
    have hc : (isNull o || !(ap.endLine == pos.line)) = false := by
      cases hq : (isNull o || !(ap.endLine == pos.line)) with
      | false => rfl
      | true => exact (hne (if_pos hq)).elim
    have e2 : (onSome (vAtt (.Attribute o name ap)) fun q => if isNull q.1 || !(q.2.2.endLine == pos.line) then .stuck else methCallP J sc σ q.1 q.2.1 args) = methCallP J sc σ o name args := if_neg (by rw [hc]; exact Bool.false_ne_true)
    rw [e2] at hne ⊢
    rw [Bool.or_eq_false_iff] at hc
    exact snd_methCall Y SE H0 hc.1 (by cases hq : (ap.endLine == pos.line) with
      | true => rfl
      | false => rw [hq] at hc; exact nomatch hc.2) hne
theorem snd_e (Y : Hy W G n) (SE : SndE W n J) (ST : SndT W n J) (H : Here W (n + 3) A X sc σ env s) {e : Expr} (hne : evE G J sc σ e ≠ .stuck) : Ev W A X s (eval e env) (evE G J sc σ e) := by
  have H0 : Here W n A X sc σ env s := H.less (by omega)
  induction e using PySem.Expr.casesOn with
  | Constant c k pos => exact snd_Constant H0.S hne
  | Name x pos => exact snd_Name Y H0.S H0.O hne
  | BinOp l op r pos => exact snd_BinOp SE H0 hne
  | UnaryOp op x pos => exact snd_UnaryOp SE H0 hne
  | BoolOp op es pos => exact snd_BoolOp SE H0 hne
  | Compare l ops rs pos => exact snd_Compare SE H0 hne
  | IfExp a b c pos => exact snd_IfExp SE ST H0 hne
  | List es pos => exact snd_List SE H0 hne
  | Tuple es k pos => exact snd_Tuple SE H0 hne
  | Call fn args kws pos => exact snd_Call Y SE H hne
  | Attribute o name pos => exact snd_Attribute Y SE H0 hne
  | Subscript o sl pos => exact snd_Subscript SE H0 hne
  | ListComp elt gens sc' pos => exact snd_ListComp Y SE ST H0 hne
  | _ => exact (hne rfl).elim
theorem snd_tval (Y : Hy W G n) (SE : SndE W n J) (ST : SndT W n J) (H : Here W (n + 3) A X sc σ env s) {e : Expr} (he : isTrue e env (eval e env) = (do let v <- eval e env; standAt e.pos; holding [v] (truthy v))) (hne : (evE G J sc σ e).bind truthyP ≠ .stuck) :
    EvB W A X s (isTrue e env (eval e env)) ((evE G J sc σ e).bind truthyP) := by
  refine wpAny_isTrue_value (then_ hne (snd_e Y SE ST H) fun va a s1 ra t1 hk1 c1 => ?_) he
  rw [c1]
  exact rb t1 (snd_truthy (H.step t1).S ra hk1)
theorem snd_t (Y : Hy W G n) (SE : SndE W n J) (ST : SndT W n J) (H : Here W (n + 3) A X sc σ env s) {e : Expr} (hne : evT G J sc σ e ≠ .stuck) : EvB W A X s (isTrue e env (eval e env)) (evT G J sc σ e) := by
  have H0 : Here W n A X sc σ env s := H.less (by omega)
  induction e using PySem.Expr.casesOn with
  | UnaryOp op x pos =>
    induction op using PySem.UnaryOp.casesOn with
    | Not =>
      have e0 : evT G J sc σ (.UnaryOp .Not x pos) = (J.t sc σ x).bind fun b => .ok (!b) := rfl
      rw [e0] at hne ⊢
      refine wpAny_isTrue_Not (then_ hne (ST.at H0) fun va a s1 ra t1 hk1 c1 => ?_)
      rw [c1]
      exact ⟨_, rfl, by rw [show va = a from ra], t1⟩
    | _ => exact snd_tval Y SE ST H rfl hne
  | BoolOp op es pos => exact wpAny_isTrue_BoolOp (snd_tsBool ST es s H0 hne)
  | IfExp a b c pos =>
    have e0 : evT G J sc σ (.IfExp a b c pos) = (J.t sc σ a).bind fun q => if q then J.t sc σ b else J.t sc σ c := rfl
    rw [e0] at hne ⊢
    show wpAny _ _ (do if <- isTrue a env (eval a env) then isTrue b env (eval b env) else isTrue c env (eval c env)) _ _ s
    refine wpAny_bind (then_ hne (ST.at H0) fun va q s1 ra t1 hk1 c1 => ?_)
    cases (show va = q from ra)
    rw [c1]
    cases va
    · exact rb t1 (ST.at (H0.step t1) hk1)
    · exact rb t1 (ST.at (H0.step t1) hk1)
  | Compare l ops rs pos =>
    have e0 : evT G J sc σ (.Compare l ops rs pos) = (cmpP J sc σ l ops rs).bind truthyP := rfl
    rw [e0] at hne ⊢
    have hcm : cmpP J sc σ l ops rs ≠ .stuck := fun q => hne (by rw [q]; rfl)
    rcases cmp_is hcm with ⟨op, r, rfl, rfl, hb⟩ | ⟨op, op2, m, r, rfl, rfl, hb⟩
    · rw [cmp1 hb] at hne ⊢
      have assoc : ((J.e sc σ l).bind fun a => (J.e sc σ r).bind fun b => cmpop op a b).bind truthyP = (J.e sc σ l).bind fun a => (J.e sc σ r).bind fun b => (cmpop op a b).bind truthyP := by
        rw [out_assoc]
        congr 1
        funext a
        rw [out_assoc]
      rw [assoc] at hne ⊢
      refine wpAny_isTrue_Compare1 (then_ hne (SE.at H0) fun va a s1 ra t1 hk1 c1 => ?_) hb
      rw [c1]
      refine thenB t1 hk1 (SE.at (H0.step t1)) fun vb b s2 rb' t2 t02 hk2 c2 => ?_
      rw [c2]
      refine thenB t02 hk2 (fun q => snd_cmpop (H0.step t02).S (ra.step t2) rb' q) fun vc c s3 rc t3 t03 hk3 c3 => ?_
      rw [c3]
      exact rb t03 (snd_truthy (H0.step t03).S rc hk3)
    · rw [cmp2 hb] at hne ⊢
      have assoc : ((J.e sc σ l).bind fun a => (J.e sc σ m).bind fun b => (cmpop op a b).bind fun c => (truthyP c).bind fun t => if t = true then (J.e sc σ r).bind fun d => cmpop op2 b d else .ok c).bind truthyP =
          (J.e sc σ l).bind fun a => (J.e sc σ m).bind fun b => (cmpop op a b).bind fun c => (truthyP c).bind fun t => if t = true then (J.e sc σ r).bind fun d => (cmpop op2 b d).bind truthyP else .ok t := by
        rw [out_assoc]; congr 1; funext a
        rw [out_assoc]; congr 1; funext b
        rw [out_assoc]; congr 1; funext c
        cases hq : truthyP c with
        | ok t =>
          cases t
          · show (Out.ok c).bind truthyP = .ok false
            exact hq
          · show ((J.e sc σ r).bind fun d => cmpop op2 b d).bind truthyP = _
            rw [out_assoc]; rfl
        | err p => rfl
        | stuck => rfl
      rw [assoc] at hne ⊢
      refine isTrue_chain (then_ hne (SE.at H0) fun va a s1 ra t1 hk1 c1 => ?_) hb
      rw [c1]
      refine test_link (thenB t1 hk1 (SE.at (H0.step t1)) fun vb b s2 rb' t2 t02 hk2 c2 => ?_)
      rw [c2]
      refine thenB t02 hk2 (fun q => snd_cmpop (H0.step t02).S (ra.step t2) rb' q) fun vc c s3 rc t3 t03 hk3 c3 => ?_
      rw [c3]
      refine thenB t03 hk3 (fun q => snd_truthy (H0.step t03).S rc q) fun vd d s4 rd t4 t04 hk4 c4 => ?_
      rw [c4]
      cases (show vd = d from rd)
      cases vd
      · exact ⟨_, rfl, rfl, t04⟩
      · refine test_last (thenB t04 hk4 (SE.at (H0.step t04)) fun ve e s5 re t5 t05 hk5 c5 => ?_)
        rw [c5]
        refine thenB t05 hk5 (fun q => snd_cmpop (H0.step t05).S ((rb'.step (t3.trans t4)).step t5) re q) fun vf f s6 rf t6 t06 hk6 c6 => ?_
        rw [c6]
        exact rb t06 (snd_truthy (H0.step t06).S rf hk6)
  | _ => exact snd_tval Y SE ST H rfl hne
end
section
variable {W : Wd} {G : Gl} {n : Nat} {J : I} {sc sc' : Scope} {σ σ' : Vars} {env : Env} {A : Around} {X X' Y : Addr -> Prop} {s s' s'' : Shared} {E : Value -> Shared -> Prop} {L : Addr} {old : Nat}
theorem Run.less {m : Nat} (H : Run W n A X sc σ env L old s) (h : m <= n) : Run W m A X sc σ env L old s := { H with S := H.S.less h }
theorem Run.here (H : Run W n A X sc σ env L old s) : Here W n A X sc σ env s := ⟨H.S, H.T, H.F.envOK⟩
theorem Run.go (H : Run W n A X sc σ env L old s) (t : StepS W (YF sc env L) s s') (F : Fra W sc σ' X env L old s'.heap) : Run W n A X sc σ' env L old s' :=
  ⟨H.S.stepY t.t, H.T, F, H.B, Nat.le_trans H.O t.t.size⟩
theorem Run.no (H : Run W n A X sc σ env L old s) (t : Step W NoA s s') : Run W n A X sc σ env L old s' := H.go (StepS.of t) (H.F.no t)
theorem Fra.congr {h : Heap} (F : Fra W sc σ X env L old h) (e : ∀ x, σ'.lookup x = σ.lookup x) : Fra W sc σ' X env L old h :=
  { F with ns := let ⟨m, a, b⟩ := F.ns; ⟨m, a, fun x p q => b x p ((e x).symm.trans q)⟩ }
theorem Epost.toB {α β : Type} {r : Out α} {k : α -> Out β} {e : Value} (H : Run W n A X sc σ env L old s) (q : Epost W X s r e s') : BEpost W X L old s (r.bind k) e s' := by
  obtain ⟨pa, e1, x, t⟩ := q
  refine ⟨pa, by rw [e1]; rfl, (x.mono H.O fun o z => z).flow fun o z => ?_, t.no⟩
  rcases z with z | z
  · exact .inl z
  · exact .inr (.inl z)
theorem thenS {α β γ : Type} {m : Sem β} {RR : Heap -> β -> α -> Prop} {r : Out α} {k : α -> Out γ} {P : β -> Shared -> Prop} (H : Run W n A X sc σ env L old s)
    (hne : r.bind k ≠ .stuck) (h1 : r ≠ .stuck -> wpAny (model W.prog W.w) A m (Post W s RR r) (Epost W X s r) s)
    (h2 : ∀ v a s', RR s'.heap v a -> Step W NoA s s' -> k a ≠ .stuck -> r.bind k = k a -> P v s') :
    wpAny (model W.prog W.w) A m P (BEpost W X L old s (r.bind k)) s :=
  wpAny_mono (h1 (bind_ne hne)) (fun v s' ⟨a, e, x, t⟩ => h2 v a s' x t (bind_ne2 hne e) (by rw [e]; rfl)) fun _ _ h => h.toB H
theorem BPost.back {r : Out Res} {f : Flow} (t : StepS W (YF sc env L) s s') (h : BPost W X sc env L old s' r f s'') : BPost W X sc env L old s r f s'' := by
  rcases h with ⟨σ', a, b, c, d⟩ | ⟨p, v, a, b, c, d⟩
  · exact .inl ⟨σ', a, b, c, t.trans d⟩
  · exact .inr ⟨p, v, a, b, c, t.trans d⟩
theorem BEpost.back {α : Type} {r : Out α} {e : Value} (t : Step W (fun a => old <= a) s s') (h : BEpost W X L old s' r e s'') : BEpost W X L old s r e s'' := by
  obtain ⟨pa, a, b, c⟩ := h
  exact ⟨pa, a, b, t.trans c⟩
theorem Run.yo (H : Run W n A X sc σ env L old s) (t : StepS W (YF sc env L) s s') : Step W (fun a => old <= a) s s' := t.t.mono fun a _ q => H.F.yold a q
theorem assign_all {M : Model} (hB : W.hB.objs.size <= old) : ∀ (xs : List Str) (ts : List (Value -> Sem Unit)) (vs : List Value) (ps : List PV) (σ : Vars) (s : Shared) (Q : Unit -> Shared -> Prop), ts.length = xs.length -> xs.length = ps.length ->
    (∀ i (h1 : i < ts.length) (h2 : i < xs.length), ∀ v Q E s, wpAny M A (storeName env xs[i] v) Q E s -> wpAny M A (ts[i] v) Q E s) -> Fra W sc σ X env L old s.heap -> Base W s.heap -> Reps W s.heap X vs ps -> xs.all (isStored sc) = true ->
    (∀ s', StepS W (YF sc env L) s s' -> Fra W sc ((xs.zip ps).reverse ++ σ) X env L old s'.heap -> Q () s') -> wpAny M A (assignInOrder ts vs) Q E s
  | [], ts, vs, ps, σ, s, Q, h1, h2, ht, F, B, r, hs, h => by
    obtain rfl : ts = [] := List.length_eq_zero_iff.mp h1
    obtain rfl : ps = [] := List.length_eq_zero_iff.mp h2.symm
    cases r
    exact wpAny_pure (h s (StepS.refl B) F)
  | x :: xs, ts, vs, ps, σ, s, Q, h1, h2, ht, F, B, r, hs, h => by
    induction ts using List.casesOn with
    | nil => cases h1
    | cons t ts =>
    induction r using Reps.casesOn with
    | nil => cases h2
    | cons rv rs =>
    rename_i v vs' p ps'
    rw [List.all_cons, Bool.and_eq_true] at hs
    show wpAny M A (do holding vs' (t v); assignInOrder ts vs') Q E s
    refine wpAny_bind (wpAny_holding (ht 0 (by simp) (by simp) v _ _ _ (F.store B hB hs.1 rv fun s1 t1 F1 => ?_)))
    refine assign_all hB xs ts vs' ps' ((x, p) :: σ) s1 Q (by simpa using h1) (by simpa using h2) (fun i a b v Q E s q => ht (i + 1) (by simpa using a) (by simpa using b) v Q E s (by simpa using q)) F1 t1.t.base (t1.r.reps rs) hs.2 fun s2 t2 F2 => ?_
    exact h s2 (t1.trans t2) (by simpa using F2)
theorem lookup_append_none {x : Str} : ∀ {l σ : Vars}, l.lookup x = none -> (l ++ σ).lookup x = σ.lookup x
  | [], _, _ => rfl
  | (a, p) :: r, σ, h => by
    rw [List.cons_append, List.lookup_cons] at *
    cases hb : x == a with
    | true => rw [hb] at h; cases h
    | false => rw [hb] at h; exact lookup_append_none h
theorem lookup_append_some {x : Str} {p : PV} : ∀ {l σ : Vars}, l.lookup x = some p -> (l ++ σ).lookup x = some p
  | (a, q) :: r, σ, h => by
    rw [List.cons_append, List.lookup_cons] at *
    cases hb : x == a with
    | true => rw [hb] at h; exact h
    | false => rw [hb] at h; exact lookup_append_some h
theorem zip_lookup_none {x : Str} : ∀ {xs : List Str} {ps : List PV}, xs.contains x = false -> (xs.zip ps).lookup x = none
  | [], _, _ => rfl
  | _ :: _, [], _ => rfl
  | a :: xs, p :: ps, h => by
    rw [List.contains_cons, Bool.or_eq_false_iff] at h
    rw [List.zip_cons_cons, List.lookup_cons, h.1]
    exact zip_lookup_none h.2
theorem rev_lookup : ∀ (xs : List Str) (ps : List PV) (σ : Vars) (x : Str), nodupB xs = true -> ((xs.zip ps).reverse ++ σ).lookup x = ((xs.zip ps) ++ σ).lookup x
  | [], _, _, _, _ => rfl
  | _ :: _, [], _, _, _ => rfl
  | a :: xs, p :: ps, σ, x, h => by
    unfold nodupB at h
    rw [Bool.and_eq_true, Bool.not_eq_true'] at h
    rw [List.zip_cons_cons, List.reverse_cons, List.append_assoc, List.singleton_append, rev_lookup xs ps ((a, p) :: σ) x h.2, List.cons_append, List.lookup_cons]
    cases hb : x == a with
    | true =>
      obtain rfl := eq_of_beq hb
      simp only
      rw [lookup_append_none (zip_lookup_none h.1), List.lookup_cons, hb]
    | false =>
      simp only
      cases hq : (xs.zip ps).lookup x with
      | none => rw [lookup_append_none hq, lookup_append_none hq, List.lookup_cons, hb]
      | some q => rw [lookup_append_some hq, lookup_append_some hq]
theorem names_cons {e : Expr} {r : List Expr} {xs : List Str} (h : namesOf (e :: r) = some xs) : ∃ x p ys, e = .Name x p /\ namesOf r = some ys /\ xs = x :: ys := by
  obtain ⟨x, hx, h2⟩ := Option.bind_eq_some_iff.mp (show (vName e).bind (fun x => (namesOf r).map (x :: ·)) = some xs from h)
  obtain ⟨p, rfl⟩ := vName_eq hx
  obtain ⟨ys, hy, rfl⟩ := Option.map_eq_some_iff.mp h2
  exact ⟨x, p, ys, rfl, hy, rfl⟩
theorem namesOf_filter {g : Expr -> Option Str} (hg : ∀ x p y, g (.Name x p) = some y -> y = x) {ts : List Expr} : ∀ {xs : List Str}, namesOf ts = some xs -> (ts.filterMap g).length = ts.length -> ts.filterMap g = xs := by
  induction ts with
  | nil => exact fun h _ => Option.some.inj h
  | cons t r ih =>
    intro xs h hl
    obtain ⟨x, p, ys, rfl, hy, rfl⟩ := names_cons h
    cases hq : g (.Name x p) with
    | none =>
      rw [List.filterMap_cons_none hq] at hl
      exact absurd hl (Nat.ne_of_lt (Nat.lt_succ_of_le (List.length_filterMap_le g r)))
    | some y =>
      rw [List.filterMap_cons_some hq] at hl ⊢
      rw [hg x p y hq, ih hy (Nat.succ.inj hl)]
theorem namesOf_length {ts : List Expr} : ∀ {xs : List Str}, namesOf ts = some xs -> xs.length = ts.length := by
  induction ts with
  | nil => exact fun h => Option.some.inj h ▸ rfl
  | cons t r ih =>
    intro xs h
    obtain ⟨x, p, ys, rfl, hy, rfl⟩ := names_cons h
    exact congrArg Nat.succ (ih hy)
theorem swapped_not {ts : List Expr} {k : Nat} {tp : Pos} {e : Expr} (h : vTup e = none) : swappedStores [.Tuple ts k tp] e env = pure none := by
  induction e using PySem.Expr.casesOn with
  | Tuple vs kk vp => exact nomatch h
  | _ => rfl
theorem swapped_is {ts : List Expr} {xs : List Str} {k : Nat} {tp : Pos} {e : Expr} (hx : namesOf ts = some xs) (ok : tupOK sc xs e = true) :
    swappedStores [.Tuple ts k tp] e env = pure none \/ swappedStores [.Tuple ts k tp] e env = pure (some xs) := by
  cases hv : vTup e with
  | none => exact .inl (swapped_not hv)
  | some vs =>
    obtain ⟨kk, vp, rfl⟩ := vTup_eq hv
    have h4' : vs.all (constantsAlone 8) = false := by
      have h := (Bool.and_eq_true_iff.mp ok).2
      cases q : vs.all (constantsAlone 8) with
      | false => rfl
      | true =>
        have h : (!vs.all (constantsAlone 8)) = true := h
        rw [q] at h
        exact nomatch h
    delta swappedStores
    dsimp only
    have fork : ∀ {c : Prop} [Decidable c] {x y : Sem (Option (List Str))}, x = pure none -> (¬ c -> y = pure none \/ y = pure (some xs)) -> (if c then x else y) = pure none \/ (if c then x else y) = pure (some xs) := fun {c} _ {x y} h1 h2 => by
      by_cases q : c
      · rw [if_pos q]; exact .inl h1
      · rw [if_neg q]; exact h2 q
    refine fork rfl fun _ => fork rfl fun _ => fork rfl fun c3 => fork rfl fun _ => ?_
    rw [if_neg (by rw [h4']; exact Bool.false_ne_true)]
    refine .inr (congrArg (fun z => pure (some z)) (namesOf_filter (fun x p y q => ?_) hx ?_))
    · have q : (if (env.kindOf x == some .local && p.line == (ts.head?.map (·.pos.line)).getD 0) = true then some x else none) = some y := q
      by_cases z : (env.kindOf x == some .local && p.line == (ts.head?.map (·.pos.line)).getD 0) = true
      · rw [if_pos z] at q; exact (Option.some.inj q).symm
      · rw [if_neg z] at q; exact nomatch q
    · rw [Bool.not_eq_true, Bool.or_eq_false_iff] at c3
      simpa using c3.1
theorem assign_each {ts : List Expr} : ∀ {xs : List Str}, namesOf ts = some xs -> (assignEach ts env).map (·.2) = ts.map (fun t => assign t env) /\ (assignEach ts env).findIdx? (·.1) = none /\ (assignEach ts env).length = xs.length := by
  induction ts with
  | nil => exact fun h => ⟨rfl, rfl, Option.some.inj h ▸ rfl⟩
  | cons t r ih =>
    intro xs h
    obtain ⟨x, p, ys, rfl, hy, rfl⟩ := names_cons h
    obtain ⟨a, b, c⟩ := ih hy
    have e : assignEach (.Name x p :: r) env = (false, assign (.Name x p) env) :: assignEach r env := rfl
    rw [e]
    exact ⟨by rw [List.map_cons, a]; rfl, by simp [List.findIdx?_cons, b], congrArg Nat.succ c⟩
theorem names_get {ts : List Expr} : ∀ {xs : List Str}, namesOf ts = some xs -> ∀ (i : Nat) (h1 : i < ts.length) (h2 : i < xs.length), ∃ p, ts[i] = .Name xs[i] p := by
  induction ts with
  | nil => exact fun _ _ h1 => nomatch h1
  | cons t r ih =>
    intro xs h i h1 h2
    obtain ⟨x, p, ys, rfl, hy, rfl⟩ := names_cons h
    induction i using Nat.casesOn with
    | zero => exact ⟨p, rfl⟩
    | succ i => exact ih hy i (Nat.lt_of_succ_lt_succ h1) (Nat.lt_of_succ_lt_succ h2)
theorem unpack_items {n' : Nat} {Q : List Value -> Shared -> Prop} {v : Value} {ps : List PV} (S : Sit W n A X s) (r : Rep W s.heap X v (.tuple ps)) (hn : n' = ps.length)
    (h : ∀ vs s', Step W NoA s s' -> Reps W s'.heap X vs ps -> Q vs s') : wpAny (model W.prog W.w) A (unpackItems v n' none) Q E s := by
  obtain ⟨a, o, vs, k, rfl, e1, c1, d1, x1, r1⟩ := r.isTuple
  have hT : IsTup s.heap a vs.toArray := ⟨_, e1, c1, _, d1⟩
  have hnn : n' = vs.toArray.size := by rw [hn, List.size_toArray, r1.length]
  rw [hnn]
  refine with_size (unpackItems_tuple S.hand hT fun h' he hs => ?_)
  have t : Step W NoA s { s with heap := h' } := Step.of_all (tk := s.toks) S.base (fun b o e => he b o (Nat.ne_of_lt (Heap.lt_size e)) e) hs
  exact h _ _ t (r1.step t)
theorem zip_rev {α β : Type} : ∀ {xs : List α} {ys : List β}, xs.length = ys.length -> xs.reverse.zip ys.reverse = (xs.zip ys).reverse
  | [], [], _ => rfl
  | x :: xs, y :: ys, h => by
    have h' : xs.length = ys.length := by simpa using h
    rw [List.reverse_cons, List.reverse_cons, List.zip_append (by simp [h']), zip_rev h']
    show _ = ((x, y) :: xs.zip ys).reverse
    rw [List.reverse_cons]
    rfl
theorem Reps.reverse {h : Heap} {vs : List Value} {ps : List PV} (r : Reps W h X vs ps) : Reps W h X vs.reverse ps.reverse :=
  r.ind (C := fun vs ps => Reps W h X vs.reverse ps.reverse) .nil fun a _ b => by
    rw [List.reverse_cons, List.reverse_cons]
    exact b.append (.cons a .nil)
theorem asg_tuple (H : Run W n A X sc σ env L old s) {ts : List Expr} {xs : List Str} {k : Nat} {tp pos : Pos} {e : Expr} (hx : namesOf ts = some xs) (ok : tupOK sc xs e = true) {E : Value -> Shared -> Prop} {Q : Flow -> Shared -> Prop}
    (h : wpAny (model W.prog W.w) A (eval e env) (fun va s1 => ∃ vs, Rep W s1.heap X va (.tuple vs) /\ Step W NoA s s1 /\ xs.length = vs.length /\
      ∀ s', Fra W sc ((xs.zip vs).reverse ++ σ) X env L old s'.heap -> StepS W (YF sc env L) s1 s' -> Q .next s') E s) :
    wpAny (model W.prog W.w) A (exec (.Assign [.Tuple ts k tp] e pos) env) Q E s := by
  have ok' := ok
  unfold tupOK at ok'
  simp only [Bool.and_eq_true] at ok'
  obtain ⟨⟨⟨h1, h2⟩, h3⟩, h4⟩ := ok'
  have hlx := namesOf_length hx
  have done : ∀ (s1 : Shared) (vs : List PV), Step W NoA s s1 -> (∀ s', Fra W sc ((xs.zip vs).reverse ++ σ) X env L old s'.heap -> StepS W (YF sc env L) s1 s' -> Q .next s') -> ∀ (s2 : Shared), Step W NoA s1 s2 ->
      ∀ (xs' : List Str) (vals' : List Value) (vs' : List PV) (trees : List (Value -> Sem Unit)), (∀ x, ((xs'.zip vs').reverse ++ σ).lookup x = ((xs.zip vs).reverse ++ σ).lookup x) -> Reps W s2.heap X vals' vs' -> trees.length = xs'.length -> xs'.length = vs'.length -> xs'.all (isStored sc) = true ->
      (∀ i (h1 : i < trees.length) (h2 : i < xs'.length), ∀ v Q E s, wpAny (model W.prog W.w) A (storeName env xs'[i] v) Q E s -> wpAny (model W.prog W.w) A (trees[i] v) Q E s) ->
      wpAny (model W.prog W.w) A (assignInOrder trees vals') (fun _ s' => Q .next s') E s2 := by
    intro s1 vs t1 hq s2 t2 xs' vals' vs' trees hlk rs' hl1 hl2 hst htr
    have H2 := H.no (t1.trans t2)
    exact assign_all H.B xs' trees vals' vs' σ s2 _ hl1 hl2 htr H2.F H2.S.base rs' hst fun s3 t3 F3 => hq s3 (F3.congr fun x => (hlk x).symm) ((StepS.of t2).trans t3)
  have hse : swapsWithSole [.Tuple ts k tp] e pos.line env = pure false := by
    show swapsWith e (some (.Tuple ts k tp)) pos.line env = pure false
    have h1 : isComp e = false := by
      cases q : isComp e with
      | false => rfl
      | true => rw [q] at h1; exact nomatch h1
    clear h4 ok h
    induction e using PySem.Expr.casesOn with
    | ListComp => exact nomatch h1
    | SetComp => exact nomatch h1
    | DictComp => exact nomatch h1
    | _ => rfl
  rcases swapped_is (env := env) (k := k) (tp := tp) hx ok with hw | hw
  · refine Assign_Tuple (wpAny_mono h (fun va s1 ⟨vs, ra, t1, hl, hq⟩ => ?_) fun _ _ q => q) hse hw
    show wpAny _ _ (do standAt tp; unpack va (assignEach ts env)) _ _ s1
    obtain ⟨a1, a2, a3⟩ := assign_each (env := env) hx
    refine wpAny_bind (wpAny_standAt ?_)
    unfold unpack
    rw [a2, a3]
    refine wpAny_bind (wpAny_holding (unpack_items (H.no t1).S ra hl fun vals s2 t2 rs => ?_))
    rw [a1]
    exact done s1 vs t1 hq s2 t2 xs vals vs _ (fun _ => rfl) rs (by simp [hlx]) hl h3 (fun i b1 b2 v Q E s q => by
      obtain ⟨p, hp⟩ := names_get hx i (by simpa using b1) b2
      simp only [List.getElem_map, hp]
      exact PySem.wpAny_assign_Name q)
  · refine Assign_Tuple_swapped (wpAny_mono h (fun va s1 ⟨vs, ra, t1, hl, hq⟩ => ?_) fun _ _ q => q) hse hw
    refine unpack_items (H.no t1).S ra hl fun vals s2 t2 rs => ?_
    have hz : xs.reverse.zip vs.reverse = (xs.zip vs).reverse := zip_rev hl
    refine done s1 vs t1 hq s2 t2 xs.reverse vals.reverse vs.reverse _ (fun x => ?_) ?_ (by simp) (by simp [hl]) (by simpa using h3) (fun i b1 b2 v Q E s q => by
      simp only [List.getElem_map]
      exact wpAny_bindName q)
    · rw [hz, List.reverse_reverse]; exact (rev_lookup xs vs σ x h2).symm
    · exact rs.reverse
theorem snd_AsgTuple (SE : SndE W n J) (H : Run W n A X sc σ env L old s) {ts : List Expr} {k : Nat} {tp pos : Pos} {e : Expr} (hne : asgP J sc σ (.Tuple ts k tp) e ≠ .stuck) :
    wpAny (model W.prog W.w) A (exec (.Assign [.Tuple ts k tp] e pos) env) (BPost W X sc env L old s (asgP J sc σ (.Tuple ts k tp) e)) (BEpost W X L old s (asgP J sc σ (.Tuple ts k tp) e)) s := by
  have e0 : asgP J sc σ (.Tuple ts k tp) e = onSome (namesOf ts) fun xs => if tupOK sc xs e then (J.e sc σ e).bind fun v => (match v with
      | .tuple vs => if xs.length = vs.length then .ok (.next ((xs.zip vs).reverse ++ σ)) else .stuck
      | _ => .stuck) else .stuck := rfl
  rw [e0] at hne ⊢
  cases hx : namesOf ts with
  | none => rw [hx] at hne; exact (hne rfl).elim
  | some xs =>
    rw [hx] at hne
    dsimp only [onSome] at hne ⊢
    by_cases ok : tupOK sc xs e = true
    · rw [if_pos ok] at hne ⊢
      refine asg_tuple H hx ok (thenS H hne (SE.at H.here) fun va a s1 ra t1 hk1 c1 => ?_)
      obtain ⟨vs, rfl, hl⟩ : ∃ vs, a = .tuple vs /\ xs.length = vs.length := by
        induction a using PV.casesOn with
        | tuple vs =>
          by_cases hl : xs.length = vs.length
          · exact ⟨vs, rfl, hl⟩
          · exact (hk1 (if_neg hl)).elim
        | _ => exact (hk1 rfl).elim
      rw [c1]
      simp only [if_pos hl]
      exact ⟨vs, ra, t1, hl, fun s' F3 t3 => .inl ⟨_, rfl, rfl, F3, (StepS.of t1).trans t3⟩⟩
    · rw [if_neg ok] at hne; exact (hne rfl).elim
end
section
variable {W : Wd} {G : Gl} {n : Nat} {J : I} {sc sc' : Scope} {σ σ' : Vars} {env : Env} {A : Around} {X X' Y : Addr -> Prop} {s s' s'' : Shared} {E : Value -> Shared -> Prop} {L : Addr} {old : Nat}
theorem store_next {x : Str} {v : Value} {p : PV} {s1 : Shared} {E : Value -> Shared -> Prop} (H : Run W n A X sc σ env L old s) (t : Step W NoA s s1) (hx : isStored sc x = true) (r : Rep W s1.heap X v p) :
    wpAny (model W.prog W.w) A (storeName env x v) (fun _ => BPost W X sc env L old s (.ok (.next ((x, p) :: σ))) .next) E s1 :=
  (H.no t).F.store t.base H.B hx r fun s2 t2 F2 => .inl ⟨_, rfl, rfl, F2, (StepS.of t).trans t2⟩
theorem snd_AsgName (Yh : Hy W G n) (SE : SndE W n J) (ST : SndT W n J) (H : Run W n A X sc σ env L old s) {x : Str} {xp pos : Pos} {e : Expr} (hne : asgP J sc σ (.Name x xp) e ≠ .stuck) :
    wpAny (model W.prog W.w) A (exec (.Assign [.Name x xp] e pos) env) (BPost W X sc env L old s (asgP J sc σ (.Name x xp) e)) (BEpost W X L old s (asgP J sc σ (.Name x xp) e)) s := by
  have e0 : asgP J sc σ (.Name x xp) e = if isStored sc x then (asgE J sc σ e).bind fun v => .ok (.next ((x, v) :: σ)) else .stuck := rfl
  rw [e0] at hne ⊢
  by_cases hx : isStored sc x = true
  · rw [if_pos hx] at hne ⊢
    have plain : (asgE J sc σ e ≠ .stuck -> Ev W A X s (eval e env) (asgE J sc σ e)) -> swapsWith e (some (.Name x xp)) pos.line env = pure false ->
        wpAny (model W.prog W.w) A (exec (.Assign [.Name x xp] e pos) env) (BPost W X sc env L old s ((asgE J sc σ e).bind fun v => (Out.ok (Res.next ((x, v) :: σ)) : Out Res))) (BEpost W X L old s ((asgE J sc σ e).bind fun v => (Out.ok (Res.next ((x, v) :: σ)) : Out Res))) s := by
      intro he hs
      refine wpAny_Assign_Name (thenS H hne he fun va a s1 ra t1 hk1 c1 => ?_) hs
      rw [c1]
      exact store_next H t1 hx ra
    induction e using PySem.Expr.casesOn with
    | ListComp elt gens sc' cpos =>
      have hb : swapsWith (.ListComp elt gens sc' cpos) (some (.Name x xp)) pos.line env = pure (env.blockKind == .function && env.kindOf x == some .local && xp.line == cpos.line && !(sc'.names.any fun (n, k) => n == x && (k == .local || k == .cell))) := rfl
      cases hbb : (env.blockKind == .function && env.kindOf x == some .local && xp.line == cpos.line && !(sc'.names.any fun (n, k) => n == x && (k == .local || k == .cell))) with
      | false =>
        rw [hbb] at hb
        exact plain (fun q => snd_ListComp (G := G) (pos := cpos) Yh SE ST H.here q) hb
      | true =>
        rw [hbb] at hb
        have e1 : asgE J sc σ (.ListComp elt gens sc' cpos) = listCompP J sc σ elt gens sc' := rfl
        rw [e1] at hne ⊢
        obtain ⟨y, py, iter, ifs, rfl, ok⟩ := lc_is (bind_ne hne)
        rw [lc_eq ok] at hne ⊢
        rw [exec_Assign_Name_used _ _ _ _ hb]
        refine wpAny_bind (wpAny_standAt (wpAny_bind ?_))
        show wpAny _ A (do let _ <- comprehension (.ListComp elt [⟨.Name y py, iter, ifs, 0⟩] sc' cpos) sc' env _ (newList []) false (eval iter env) (some (assign (.Name x xp) env))) _ _ s
        refine wpAny_bind (wpAny_mono (comp_upto (use := some (assign (.Name x xp) env)) (Q := fun _ s' => BPost W X sc env L old s (((iterP J sc σ iter).bind fun items => (mapOut (compEl J sc' (freeVars sc' σ) y ifs elt) items).bind fun vs => (.ok (.list vs) : Out PV)).bind fun v => (Out.ok (Res.next ((x, v) :: σ)) : Out Res)) .next s') Yh SE ST H.here ok (bind_ne hne) (fun D C s1 vs qs m hq h1 h2 h3 t hp hr hn hC => ?_) fun e s' q => q.toB H) (fun _ s' q => wpAny_pure (wpAny_pure q)) fun _ _ q => q)
        rw [hq]
        show wpAny _ A (assign (.Name x xp) env (.ref D)) _ _ s1
        obtain ⟨oC, hC, hcC⟩ := hC
        have hBC : W.hB.objs.size <= C := Nat.le_trans H.S.base.size h2
        have hCnew : ∀ a, a < s.heap.objs.size -> (X a \/ a = C) -> X a := fun a ha q => q.elim id fun z => absurd (z ▸ ha) (Nat.not_lt.mpr h2)
        have FC : Fra W sc σ (fun a => X a \/ a = C) env L old s1.heap := (H.F.wid fun v p r => r.widen hCnew).no t
        obtain ⟨k, ek⟩ := hp
        have rD : Rep W s1.heap (fun a => X a \/ a = C) (.ref D) (.list qs) := .list ek rfl rfl (fun q => q.elim (fun q => Nat.lt_irrefl _ (Nat.lt_of_lt_of_le (H.S.priv _ q) h1)) fun q => h3 q) rfl
          (hr.widen fun a _ q => q.elim .inl fun z => .inr (.inr z))
        have hLC : C ≠ L := fun z => by
          obtain ⟨o, es, ep, e, _⟩ := H.F.obj
          exact Nat.lt_irrefl _ (Nat.lt_of_lt_of_le (Heap.lt_size e) (z ▸ h2))
        refine PySem.wpAny_assign_Name (FC.store t.base H.B hx rD fun s2 t2 F2 => ?_)
        have hyC : ¬ YF sc env L C := fun q => by
          rcases q with q | ⟨z, z1, z2⟩
          · exact hLC q
          · obtain ⟨c, v, b, d, _⟩ := H.F.own z z1
            rw [z2] at b; cases b
            exact Nat.lt_irrefl _ (Nat.lt_of_lt_of_le (Heap.cell_lt d) h2)
        have hn2 : s2.heap.Ns C m := ns_keeps hn t2.t.keeps hyC
        have hC2 : s2.heap.get? C = some oC := t2.t.keeps.get hC hyC (by rw [hcC]; exact nofun) (by rw [hcC]; exact dict_ne_frame)
        refine ⟨m, hn2, fun h' hs' => ?_⟩
        have u : Step W (fun a => a = C) s2 { s2 with heap := h' } := Step.one (tk := s2.toks) t2.t.base hC2 hBC (by rw [hcC]; exact nofun) (by rw [hcC]; decide) (by rw [hcC]; exact dict_ne_frame) hs'
        have F3 : Fra W sc ((x, .list qs) :: σ) (fun a => X a \/ a = C) env L old h' := F2.step u (fun a q => by
          subst q
          exact ⟨hLC, fun v ⟨o, e, d⟩ => by obtain ⟨o', es, ep, e', hd, _⟩ := hn2; rw [e] at e'; cases e'; rw [d] at hd; cases hd⟩) fun v p r => r.keeps u.keeps fun a q => .inr q
        refine .inl ⟨_, rfl, rfl, F3.wid fun v p r => r.widen fun a _ q => .inl q, ⟨?_, fun X2 v p r => ?_⟩⟩
        · exact ((t.no.trans (t2.t.mono (Y' := fun a => YF sc env L a \/ a = C) fun a _ q => .inl q)).trans (u.mono fun a _ q => .inr q)).mono fun a ha q => q.elim id fun z => absurd (z ▸ ha) (Nat.not_lt.mpr h2)
        · exact ((((r.widen (X' := fun a => X2 a \/ a = C) fun a ha q => q.elim id fun z => absurd (z ▸ ha) (Nat.not_lt.mpr h2)).step t) |> t2.r _ _ _).keeps u.keeps fun a q => .inr q).widen fun a _ q => .inl q
    | SetComp => exact (hne rfl).elim
    | DictComp => exact (hne rfl).elim
    | _ => exact plain (fun q => SE.at H.here q) rfl
  · rw [if_neg hx] at hne; exact (hne rfl).elim
end
section
variable {W : Wd} {G : Gl} {n : Nat} {J : I} {sc sc' : Scope} {σ σ' : Vars} {env : Env} {A : Around} {X X' Y : Addr -> Prop} {s s' s'' : Shared} {E : Value -> Shared -> Prop} {L : Addr} {old : Nat}
theorem AtTop.at {h : Heap} (T : AtTop A env) (F : Fra W sc σ X env L old h) : ∃ e0 rest, A.frames = some (e0 :: rest) /\ e0.frame = some L /\ env.frame = some L := by
  obtain ⟨e0, rest, L', a, b, c⟩ := T
  have := F.fr
  rw [c] at this; cases this
  exact ⟨e0, rest, a, b, c⟩
theorem exc_back {M : Model} {e : Value} {pa : PV} (B : Base W s.heap) (hB : W.hB.objs.size <= old) (hf : env.frame = some L) (hx : Exc W s.heap X old (FlAt L) e pa)
    (h : ∀ s', Step W (fun a => old <= a) s s' -> Exc W s'.heap X old (FlAt L) e pa -> E e s') : cameBackBy M A env E e s := by
  unfold cameBackBy
  have hx2 : Exc W s.heap X old (fun o => o ≠ none) e pa := hx.flow fun o z => by rw [z]; exact nofun
  have key : ∃ T, ∃ ea vs, e = .ref ea /\ (∃ o, s.heap.get? ea = some o /\ o.data = .fields vs) /\ vs[1]? = some (.ref T) := by
    obtain ⟨ea, dx, vs, what, t1, t2, tw, hs1, hs2, n, va, sl, sld, q1, q2, q3, q4, q5, q6, q7, q8⟩ := hx
    rcases q8 with ⟨_, b⟩ | ⟨T, oT, ts, f, r1, _⟩
    · cases b
    · exact ⟨T, ea, vs, q1, ⟨_, q4, rfl⟩, r1⟩
  obtain ⟨T, ea, vs, rfl, ⟨o, e1, e2⟩, e3⟩ := key
  refine wpAny_bind (wpAny_field e1 e2 e3 ?_)
  rw [if_neg (by simp)]
  rw [hf]
  exact wpAny_mono (exc_flight (E := E) hx2 B hB (some L)) (fun _ s1 q => h s1 q.2 q.1) fun _ _ q => q
theorem for_loop {R : Result -> Shared -> Prop} {target body orelse} {it : Value} (I : Nat -> Shared -> Prop)
    (turn : ∀ n s, I n s -> wpAny (model W.prog W.w) A (pyNext it) (fun r s₁ => match r with
      | none => wpAny (model W.prog W.w) A (execs orelse env) (fun f s₃ => R (.ok f) s₃) (notedBy (model W.prog W.w) A env fun e s' => R (.error e) s') s₁
      | some v => wpAny (model W.prog W.w) A (letOwnedTupleGo target it v) (fun _ s₁' => wpAny (model W.prog W.w) A (assign target env v) (fun _ s₂ => wpAny (model W.prog W.w) A (execs body env) (fun f s₃ => match f with
          | .next | .cont => ∃ m, m < n /\ I m s₃
          | .brk => R (.ok .next) s₃
          | .ret v => R (.ok (.ret v)) s₃) (notedBy (model W.prog W.w) A env fun e s' => R (.error e) s') s₂) (notedBy (model W.prog W.w) A env fun e s' => R (.error e) s') s₁') (notedBy (model W.prog W.w) A env fun e s' => R (.error e) s') s₁) (notedBy (model W.prog W.w) A env fun e s' => R (.error e) s') s)
    (n : Nat) (h : I n s) : codeAny (model W.prog W.w) A (.forLoop target it body orelse env) R s := by
  refine codeAny_loop' rfl I (fun n s hI => ?_) n h
  show wpAny _ _ ((forTurn target it body orelse env).onRaise (fun x => do noteFrame x env; theTreesLotGoes x)) _ _ s
  refine wpAny_noted ?_
  simp only [forTurn]
  refine wpAny_bind (wpAny_standAt (wpAny_bind (wpAny_onRaise (wpAny_mono (turn n s hI) (fun r s₁ h₁ => ?_) fun _ _ h' => wpAny_standAt h'))))
  induction r using Option.casesOn with
  | none => exact wpAny_pure (.inr ⟨rfl, codeAny_block h₁⟩)
  | some v =>
    refine wpAny_bind (wpAny_mono h₁ (fun _ s₁' h₁' => ?_) fun _ _ h' => h')
    refine wpAny_bind (wpAny_mono h₁' (fun _ s₂ h₂ => wpAny_bind (wpAny_mono h₂ (fun f s₃ h₃ => ?_) fun _ _ h' => h')) fun _ _ h' => h')
    cases f with
    | next => exact wpAny_pure (.inl ⟨rfl, h₃⟩)
    | cont => exact wpAny_pure (.inl ⟨rfl, h₃⟩)
    | brk => exact wpAny_pure h₃
    | ret v => exact wpAny_pure h₃
theorem assign_any {t : Expr} {v : Value} {p : PV} {E : Value -> Shared -> Prop} {Q : Unit -> Shared -> Prop} (H : Run W n A X sc σ env L old s) (hb : bindT sc t p σ = some σ') (r : Rep W s.heap X v p)
    (h : ∀ s', StepS W (YF sc env L) s s' -> Fra W sc σ' X env L old s'.heap -> Q () s') : wpAny (model W.prog W.w) A (assign t env v) Q E s := by
  cases hv : vName t with
  | some x =>
    obtain ⟨xp, rfl⟩ := vName_eq hv
    have hb : (if isStored sc x = true then some ((x, p) :: σ) else none) = some σ' := hb
    by_cases hx : isStored sc x = true
    · rw [if_pos hx] at hb
      obtain rfl := Option.some.inj hb
      exact PySem.wpAny_assign_Name (H.F.store H.S.base H.B hx r h)
    · rw [if_neg hx] at hb; exact nomatch hb
  | none =>
    have e0 : bindT sc t p σ = (vTup t).bind fun ts => (namesOf ts).bind (bindTs sc σ p) := by unfold bindT; rw [hv]
    rw [e0] at hb
    obtain ⟨ts, ht, hb1⟩ := Option.bind_eq_some_iff.mp hb
    clear hb e0
    obtain ⟨k, tp, rfl⟩ := vTup_eq ht
    obtain ⟨xs, hxs, hb2⟩ := Option.bind_eq_some_iff.mp hb1
    obtain ⟨vs, rfl⟩ : ∃ vs, p = .tuple vs := by
      induction p using PV.casesOn with
      | tuple vs => exact ⟨vs, rfl⟩
      | _ => exact nomatch hb2
    have hb : (if xs.length = vs.length /\ xs.all (isStored sc) = true then some ((xs.zip vs).reverse ++ σ) else none) = some σ' := hb2
    by_cases hc : xs.length = vs.length /\ xs.all (isStored sc) = true
    · rw [if_pos hc] at hb
      obtain rfl := Option.some.inj hb
      show wpAny _ _ (do standAt tp; unpack v (assignEach ts env)) _ _ s
      obtain ⟨a1, a2, a3⟩ := assign_each (env := env) hxs
      refine wpAny_bind (wpAny_standAt ?_)
      unfold unpack
      rw [a2, a3]
      refine wpAny_bind (wpAny_holding (unpack_items H.S r hc.1 fun vals s2 t2 rs => ?_))
      rw [a1]
      have H2 := H.no t2
      have hlx := namesOf_length hxs
      exact assign_all H.B xs _ vals vs σ s2 _ (by simp [hlx]) hc.1 (fun i b1 b2 v Q E s q => by
        obtain ⟨p, hp⟩ := names_get hxs i (by simpa using b1) b2
        simp only [List.getElem_map, hp]
        exact PySem.wpAny_assign_Name q) H2.F H2.S.base rs hc.2 fun s3 t3 F3 => h s3 ((StepS.of t2).trans t3) F3
    · rw [if_neg hc] at hb; exact nomatch hb
end
section
variable {W : Wd} {G : Gl} {n : Nat} {J : I} {sc sc' : Scope} {σ σ' : Vars} {env : Env} {A : Around} {X X' Y : Addr -> Prop} {s s' s'' : Shared} {E : Value -> Shared -> Prop} {L : Addr} {old : Nat} {Z : Addr -> Prop}
theorem dd_look (x : Str) : ∀ (σ : Vars), (dd σ).lookup x = σ.lookup x := by
  have keep : ∀ (a : Str) (l : Vars), (x == a) = false -> (l.filter fun q => !(q.1 == a)).lookup x = l.lookup x := by
    intro a l h
    induction l with
    | nil => rfl
    | cons q r ih =>
      rw [List.filter_cons]
      cases hq : (q.1 == a) with
      | true =>
        have hx : (x == q.1) = false := by rw [eq_of_beq hq]; exact h
        rw [if_neg (by decide), ih, List.lookup_cons, hx]
      | false =>
        rw [if_pos (show (!false) = true from rfl), List.lookup_cons, List.lookup_cons, ih]
  intro σ
  induction σ with
  | nil => rfl
  | cons p r ih =>
    show List.lookup x (p :: (dd r).filter fun q => !(q.1 == p.1)) = _
    rw [List.lookup_cons, List.lookup_cons]
    cases h : (x == p.1) with
    | true => rfl
    | false => rw [keep p.1 _ h, ih]
theorem Fra.sub {h : Heap} (F : Fra W sc σ X env L old h) (e : ∀ x p, σ'.lookup x = some p -> σ.lookup x = some p) : Fra W sc σ' X env L old h :=
  { F with ns := let ⟨m, a, b⟩ := F.ns; ⟨m, a, fun x p q => b x p (e x p q)⟩ }
theorem dd_at {σ : Vars} : ∀ x p, (dd σ).lookup x = some p -> σ.lookup x = some p := fun x p h => (dd_look x σ).symm.trans h
noncomputable def Plc (W : Wd) (Z : Addr -> Prop) (h : Heap) : Prop := ∀ a, Z a -> W.hB.objs.size <= a /\ ∃ o, h.get? a = some o /\ (∀ v, o.data ≠ .cell v) /\ o.cls ≠ .none /\ o.cls ≠ .type "frame" /\ o.cls ≠ .type "code"
theorem Base.turnZ {h h' : Heap} (B : Base W h) (P : Plc W Z h) (k : ∀ b o, ¬ Z b -> h.get? b = some o -> h'.get? b = some o) (hs : h.objs.size <= h'.objs.size) : Base W h' where
  old := fun b o e f => k b o (fun q => absurd (P b q).1 (Nat.not_le.mpr (Heap.lt_size e))) (B.old b o e f)
  tab := fun x hx => by
    obtain ⟨ps, e, t, r⟩ := B.tab x hx
    refine ⟨ps, k _ _ (fun q => by obtain ⟨_, o, e', _, n1, _⟩ := P _ q; rw [e] at e'; cases e'; exact n1 rfl) e, t, fun pos cv hcv => ?_⟩
    obtain ⟨⟨c, o, vs, tk, e1, e2, e3, e4⟩, c', o', b, d, f⟩ := r pos cv hcv
    obtain rfl : c' = c := by cases b.symm.trans e1; rfl
    obtain rfl : o' = o := Option.some.inj (d.symm.trans e2)
    have ne : ¬ Z c' := fun q => by obtain ⟨_, o, e', _, _, _, n1⟩ := P _ q; rw [e2] at e'; cases e'; exact n1 f
    exact ⟨⟨c', o', vs, tk, e1, k _ _ ne e2, e3, e4⟩, c', o', b, k _ _ ne d, f⟩
  size := Nat.le_trans B.size hs
theorem Step.zs {h' : Heap} {tk : Nat} (B : Base W s.heap) (P : Plc W Z s.heap) (k : ∀ b o, ¬ Z b -> s.heap.get? b = some o -> h'.get? b = some o) (hs : s.heap.objs.size <= h'.objs.size) : Step W Z s { s with heap := h', toks := tk } :=
  ⟨fun b o e hy _ => ⟨o.slots, k b o hy e, fun _ => rfl⟩, B.turnZ P k hs, hs, rfl, rfl,
    fun b o es n e c d => ⟨o, es, n, k b o (fun q => by obtain ⟨_, o', e', _, _, n1, _⟩ := P _ q; rw [e] at e'; cases e'; exact n1 c) e, c, d⟩⟩
structure SrcZ (W : Wd) (A : Around) (I : Addr) (Z : Addr -> Prop) (t : Expr) (items : List PV) (X : Addr -> Prop) (St : Nat -> Heap -> Prop) : Prop where
  keepR : ∀ {i : Nat} {h h' : Heap}, St i h -> (∀ v p, Rep W h X v p -> Rep W h' X v p) -> (∀ a o, Z a -> h.get? a = some o -> o.cls ≠ .none -> o.cls ≠ .type "frame" -> h'.get? a = some o) -> St i h'
  item : ∀ {i : Nat} {s : Shared} {p : PV} {Q : Option Value -> Shared -> Prop} {E : Value -> Shared -> Prop}, St i s.heap -> Base W s.heap -> (∀ a, X a -> a < s.heap.objs.size) -> items[i]? = some p ->
    (∀ v s1, (∀ (Q' : Unit -> Shared -> Prop) (E' : Value -> Shared -> Prop), (∀ s', St (i + 1) s'.heap -> Step W Z s s' -> Rep W s'.heap X v p -> Q' () s') -> wpAny (model W.prog W.w) A (letOwnedTupleGo t (.ref I) v) Q' E' s1) -> Q (some v) s1) -> wpAny (model W.prog W.w) A (pyNext (.ref I)) Q E s
  done : ∀ {s : Shared} {Q : Option Value -> Shared -> Prop} {E : Value -> Shared -> Prop}, St items.length s.heap -> Base W s.heap ->
    (∀ s', Step W Z s s' -> Q none s') -> wpAny (model W.prog W.w) A (pyNext (.ref I)) Q E s
  obj : ∀ {i : Nat} {h : Heap}, St i h -> ∀ a, Z a -> ∃ o, h.get? a = some o /\ (∀ v, o.data ≠ .cell v) /\ o.cls ≠ .none /\ o.cls ≠ .type "frame"
theorem Src.toZ {I : Addr} {items : List PV} {St : Nat -> Heap -> Prop} {t : Expr} (S : Src W A I items X St) (xI : X I) (hgo : ∀ v, letOwnedTupleGo t (.ref I) v = pure ()) : SrcZ W A I (fun a => a = I) t items X St where
  keepR := fun st hr hi => S.keepR st hr fun o => hi I o rfl
  item := fun st B _ hp hQ => S.item st B hp fun v s1 st1 t1 r1 => hQ v s1 fun Q' E' h => by
    rw [hgo]; exact wpAny_pure (h s1 st1 t1 r1)
  done := fun st B hQ => S.done st B hQ
  obj := fun st a q => q ▸ S.obj st
structure SI (W : Wd) (sc : Scope) (env : Env) (L : Addr) (Z : Addr -> Prop) (s s' : Shared) : Prop where
  t : Step W (fun a => YF sc env L a \/ Z a) s s'
  r : ∀ X2 v p, Rep W s.heap X2 v p -> Rep W s'.heap (fun a => X2 a \/ Z a) v p
theorem SI.go (x : SI W sc env L Z s s') (y : StepS W (YF sc env L) s' s'') : SI W sc env L Z s s'' :=
  ⟨x.t.trans (y.t.mono fun a _ q => .inl q), fun X2 v p r => y.r _ _ _ (x.r X2 v p r)⟩
theorem SI.it (x : SI W sc env L Z s s') (y : Step W Z s' s'') : SI W sc env L Z s s'' :=
  ⟨x.t.trans (y.mono fun a _ q => .inr q), fun X2 v p r => (x.r X2 v p r).keeps y.keeps fun a q => .inr q⟩
theorem SI.first (t : Step W NoA s s') (hI : ∀ a, Z a -> s.heap.objs.size <= a) : SI W sc env L Z s s' :=
  ⟨t.no, fun X2 v p r => (r.widen fun a ha q => q.elim id fun z => absurd ha (Nat.not_lt.mpr (hI a z))).step t⟩
theorem SI.end (x : SI W sc env L Z s s') (hI : ∀ a, Z a -> s.heap.objs.size <= a) : StepS W (YF sc env L) s s' :=
  ⟨x.t.mono fun a ha q => q.elim id fun z => absurd ha (Nat.not_lt.mpr (hI a z)), fun X2 v p r => (x.r X2 v p r).widen fun a _ q => .inl q⟩
theorem SI.ge {h : Heap} (F : Fra W sc σ X env L old h) (x : SI W sc env L Z s s') (hI : ∀ a, Z a -> old <= a) : Step W (fun a => old <= a) s s' := x.t.mono fun a _ q => q.elim (F.yold a) fun z => hI a z
theorem Exc.wid {h : Heap} {fl : Option Value -> Prop} {e : Value} {pa : PV} (x : Exc W h X old fl e pa) (hx : ∀ v p, Rep W h X v p -> Rep W h X' v p) : Exc W h X' old fl e pa := by
  obtain ⟨ea, dx, vs, what, t1, t2, tw, hs1, hs2, n, va, sl, sld, q1, q2, q3, q4, q5, q6, q7, q8⟩ := x
  exact ⟨ea, dx, vs, what, t1, t2, tw, hs1, hs2, n, va, sl, sld, q1, q2, q3, q4, q5, q6, hx _ _ q7, q8⟩
theorem snd_loop (SB : SndB W n J) (H : Run W n A X sc σ env L old s) {t : Expr} {body : List Stmt} {items : List PV} {I : Addr} {s2 : Shared} (t2 : Step W NoA s s2) (hI : ∀ a, Z a -> s.heap.objs.size <= a)
    (src : ∀ X' : Addr -> Prop, (∀ a, Z a -> X' a) -> (∀ a, a < s2.heap.objs.size -> X' a -> X a \/ Z a) -> ∃ St, SrcZ W A I Z t items X' St /\ St 0 s2.heap)
    (hne : loopP (fun σ' => J.b sc σ' body) sc t items σ ≠ .stuck) :
    codeAny (model W.prog W.w) A (.forLoop t (.ref I) body [] env) (fun r s' => match r with | .ok f => BPost W X sc env L old s (loopP (fun σ' => J.b sc σ' body) sc t items σ) f s' | .error e => cameBackBy (model W.prog W.w) A env (BEpost W X L old s (loopP (fun σ' => J.b sc σ' body) sc t items σ)) e s') s2 := by
  obtain ⟨X', hX'⟩ : ∃ X' : Addr -> Prop, X' = fun a => X a \/ Z a := ⟨_, rfl⟩
  have xI : ∀ a, Z a -> X' a := fun a q => by rw [hX']; exact .inr q
  obtain ⟨St, S, st0⟩ := src X' xI fun a _ q => by rw [hX'] at q; exact q
  have hoI : ∀ a, Z a -> old <= a := fun a q => Nat.le_trans H.O (hI a q)
  have hLI : ∀ a, Z a -> a ≠ L := fun a q z => by
    obtain ⟨o, es, ep, e, _⟩ := H.F.obj
    exact Nat.lt_irrefl _ (Nat.lt_of_lt_of_le (Heap.lt_size e) (z ▸ hI a q))
  have hw : ∀ {h : Heap} v p, Rep W h X' v p -> Rep W h X v p := fun v p r => r.widen fun a _ q => by rw [hX']; exact .inl q
  have F0 : Fra W sc σ X' env L old s2.heap := (H.F.wid fun v p r => r.widen fun a ha q => by
    rw [hX'] at q
    exact q.elim id fun z => absurd ha (Nat.not_lt.mpr (hI a z))).no t2
  have run : ∀ s' σ' i, SI W sc env L Z s s' -> Fra W sc σ' X' env L old s'.heap -> St i s'.heap -> Run W n A X' sc σ' env L old s' := fun s' σ' i x F st =>
    ⟨⟨x.t.base, H.S.room, H.S.hand, let ⟨l, a, b⟩ := H.S.fr; ⟨l, a, b.step x.t.fr⟩, fun a q => by
      rw [hX'] at q
      rcases q with q | q
      · exact Nat.lt_of_lt_of_le (H.S.priv a q) x.t.size
      · obtain ⟨o, e, _⟩ := S.obj st a q; exact Heap.lt_size e⟩, H.T, F, H.B, Nat.le_trans H.O x.t.size⟩
  have noCell : ∀ i h, St i h -> ∀ a, Z a -> ∀ v, ¬ h.IsCell a v := fun i h st a q v ⟨o, e, d⟩ => by
    obtain ⟨o', e', d', _⟩ := S.obj st a q
    rw [e] at e'; cases e'
    exact d' v d
  have fraI : ∀ {s1 s2 : Shared} {σ' : Vars} {i : Nat}, Fra W sc σ' X' env L old s1.heap -> St i s1.heap -> Step W Z s1 s2 -> Fra W sc σ' X' env L old s2.heap := fun F st t =>
    F.step t (fun a q => ⟨hLI a q, noCell _ _ st a q⟩) fun v p r => r.keeps t.keeps fun a q => xI a q
  have bad : ∀ (r : Out Res) (e : Value) (s1 s3 : Shared) (σ' : Vars) (i : Nat), r = loopP (fun σ' => J.b sc σ' body) sc t items σ -> SI W sc env L Z s s1 -> Fra W sc σ' X' env L old s1.heap -> St i s1.heap -> (∃ pa, r = .err pa /\ Exc W s3.heap X' old (Fl1 L) e pa /\ Step W (fun a => old <= a) s1 s3) ->
      notedBy (model W.prog W.w) A env (fun e s' => cameBackBy (model W.prog W.w) A env (BEpost W X L old s (loopP (fun σ' => J.b sc σ' body) sc t items σ)) e s') e s3 := by
    rintro r e s1 s3 σ' i hr x F st ⟨pa, rfl, hx, t3⟩
    obtain ⟨e0, rest, f1, f2, f3⟩ := H.T.at H.F
    obtain ⟨l, g1, g2⟩ := H.S.fr
    rw [f1] at g1; cases g1
    have R1 := run s1 σ' i x F st
    have St3 : Stk W (e0 :: rest) s3.heap := (g2.step x.t.fr).step t3.fr
    refine wpAny_mono (exc_note f1 St3 f2 f3 t3.base hx H.B (Nat.le_trans R1.O t3.size)) (fun _ s4 q => ?_) fun _ _ q => q
    refine exc_back q.2.base H.B f3 q.1 fun s5 t5 x5 => ⟨pa, hr.symm, (x5.wid hw).flow fun o z => .inr (.inr z), ?_⟩
    exact ((x.ge H.F hoI).trans t3).trans (q.2.trans t5)
  refine for_loop (fun k s' => ∃ i σi, k = items.length + 1 - i /\ i <= items.length /\ loopP (fun σ' => J.b sc σ' body) sc t (items.drop i) σi = loopP (fun σ' => J.b sc σ' body) sc t items σ /\ SI W sc env L Z s s' /\ Fra W sc σi X' env L old s'.heap /\ St i s'.heap) ?_ (items.length + 1)
    ⟨0, σ, rfl, Nat.zero_le _, rfl, SI.first t2 hI, F0, st0⟩
  rintro k s' ⟨i, σi, rfl, hi, he, x, F, st⟩
  rcases Nat.lt_or_ge i items.length with hlt | hge
  · have hp : items[i]? = some items[i] := by simp [hlt]
    have hdrop : items.drop i = items[i] :: items.drop (i + 1) := List.drop_eq_getElem_cons hlt
    generalize items[i] = p at hp hdrop
    have e0 : loopP (fun σ' => J.b sc σ' body) sc t (p :: items.drop (i + 1)) σi = (match bindT sc t p σi with
      | none => .stuck
      | some σ1 => (J.b sc σ1 body).bind fun q => match q with
        | .next σ' => loopP (fun σ' => J.b sc σ' body) sc t (items.drop (i + 1)) (dd σ')
        | .ret v => .ok (.ret v)) := rfl
    rw [hdrop, e0] at he
    refine S.item st x.t.base (run s' σi i x F st).S.priv hp fun v s1 own => ?_
    refine own _ _ fun s1' st1' t1' rv2 => ?_
    have x2 := x.it t1'
    have F2 := fraI F st t1'
    cases hb : bindT sc t p σi with
    | none => rw [hb] at he; exact (hne he.symm).elim
    | some σ1 =>
      rw [hb] at he
      simp only at he
      have R2 := run s1' σi (i + 1) x2 F2 st1'
      refine assign_any R2 hb rv2 fun s2' t2' F3 => ?_
      have x3 := x2.go t2'
      have keepSt : ∀ {s1 s2 : Shared} {j : Nat}, St j s1.heap -> StepS W (YF sc env L) s1 s2 -> (∀ a, YF sc env L a -> ¬ Z a) -> St j s2.heap := fun st t hy => S.keepR st (fun v p r => t.r _ _ _ r) fun a o z e hn hf => t.t.keeps.get e (fun q => hy a q z) hn hf
      have yI : ∀ a, YF sc env L a -> ¬ Z a := fun a q z => by
        rcases q with q | ⟨y, y1, y2⟩
        · exact hLI a z q
        · obtain ⟨c, v, b, d, _⟩ := H.F.own y y1
          rw [y2] at b; cases b
          exact Nat.lt_irrefl _ (Nat.lt_of_lt_of_le (Heap.cell_lt d) (hI a z))
      have st3 := keepSt st1' t2' yI
      have R3 := run s2' σ1 (i + 1) x3 F3 st3
      have hne2 : J.b sc σ1 body ≠ .stuck := fun q => hne (by rw [<- he, q]; rfl)
      refine wpAny_mono (SB sc σ1 body env A X' s2' L old R3 hne2) (fun f s3 q => ?_) fun e s3 q => ?_
      · rcases q with ⟨σ', e1, rfl, F4, t4⟩ | ⟨p', v', e1, rfl, r4, t4⟩
        · rw [e1] at he
          exact ⟨items.length + 1 - (i + 1), by omega, i + 1, dd σ', rfl, by omega, he, x3.go t4, F4.sub dd_at, keepSt st3 t4 yI⟩
        · rw [e1] at he
          exact .inr ⟨p', v', he.symm, rfl, hw _ _ r4, (x3.go t4).end hI⟩
      · obtain ⟨pa, e1, x5, t5⟩ := q
        exact bad _ e s2' s3 σ1 (i + 1) he x3 F3 st3 ⟨pa, by rw [e1]; rfl, x5, t5⟩
  · obtain rfl : i = items.length := by omega
    refine S.done st x.t.base fun s1 t1 => ?_
    refine wpAny_execs_nil ?_
    rw [List.drop_length] at he
    exact .inl ⟨σi, he.symm, rfl, (fraI F st t1).wid hw, (x.it t1).end hI⟩
end
section
variable {W : Wd} {G : Gl} {n : Nat} {J : I} {sc : Scope} {σ : Vars} {env : Env} {A : Around} {X X' : Addr -> Prop} {s s' : Shared} {E : Value -> Shared -> Prop}
noncomputable def ZP (N : Nat) (a : Nat) : Prop := N <= a /\ a <= N + 4
theorem zp (N : Nat) (k : Nat) (h : k <= 4 := by decide) : ZP N (N + k) := ⟨Nat.le_add_right _ _, Nat.add_le_add_left h _⟩
noncomputable def ZipSt (W : Wd) (X : Addr -> Prop) (N l1 l2 : Addr) (xs ys : List PV) (i : Nat) (h : Heap) : Prop :=
  IsZip h (N + 4) (N + 2) (N + 3) .none /\ IsPair h (N + 2) (.ref N) (.ref (N + 1)) /\ (∃ a b, IsPair h (N + 3) a b) /\ h.IsListIter N l1 i /\ h.IsListIter (N + 1) l2 i /\ Rep W h X (.ref l1) (.list xs) /\ Rep W h X (.ref l2) (.list ys)
theorem typ_nn {c : String} : Value.type c ≠ .none := nofun
theorem zp_cases {N a : Nat} (h : ZP N a) : a = N \/ a = N + 1 \/ a = N + 2 \/ a = N + 3 \/ a = N + 4 := by
  obtain ⟨k, rfl⟩ := Nat.exists_eq_add_of_le h.1
  rcases (by decide : ∀ k < 5, k = 0 \/ k = 1 \/ k = 2 \/ k = 3 \/ k = 4) k (Nat.lt_succ_of_le (Nat.le_of_add_le_add_left h.2)) with rfl | rfl | rfl | rfl | rfl
  · exact .inl rfl
  · exact .inr (.inl rfl)
  · exact .inr (.inr (.inl rfl))
  · exact .inr (.inr (.inr (.inl rfl)))
  · exact .inr (.inr (.inr (.inr rfl)))
theorem ZipSt.obj {N l1 l2 : Addr} {xs ys : List PV} {i : Nat} {h : Heap} (st : ZipSt W X N l1 l2 xs ys i h) (a : Addr) (z : ZP N a) :
    ∃ o, h.get? a = some o /\ (∀ v, o.data ≠ .cell v) /\ o.cls ≠ .none /\ o.cls ≠ .type "frame" /\ o.cls ≠ .type "code" := by
  obtain ⟨hz, hTI, ⟨x, y, hTO⟩, ⟨o1, h1, c1, d1⟩, ⟨o2, h2, c2, d2⟩, _⟩ := st
  have q1 : o1.cls ≠ .none /\ o1.cls ≠ .type "frame" /\ o1.cls ≠ .type "code" := by rw [c1]; decide
  have q2 : o2.cls ≠ .none /\ o2.cls ≠ .type "frame" /\ o2.cls ≠ .type "code" := by rw [c2]; decide
  have q3 : Value.type "tuple" ≠ .none /\ Value.type "tuple" ≠ .type "frame" /\ Value.type "tuple" ≠ .type "code" := by decide
  have q4 : Value.type "zip" ≠ .none /\ Value.type "zip" ≠ .type "frame" /\ Value.type "zip" ≠ .type "code" := by decide
  rcases zp_cases z with rfl | rfl | rfl | rfl | rfl
  · exact ⟨o1, h1, (by rw [d1]; exact nc_fields), q1⟩
  · exact ⟨o2, h2, (by rw [d2]; exact nc_fields), q2⟩
  · exact ⟨_, hTI, nc_seq, q3⟩
  · exact ⟨_, hTO, nc_seq, q3⟩
  · exact ⟨_, hz, nc_fields, q4⟩
theorem rep_list {h : Heap} {l : Addr} {xs : List PV} (r : Rep W h X (.ref l) (.list xs)) : ∃ vs, h.IsList l vs.toArray /\ Reps W h X vs xs /\ ¬ X l := by
  obtain ⟨a, o, vs, n, e, ho, hc, hd, hx, _, rs⟩ := r.isList
  obtain rfl := Value.ref.inj e
  exact ⟨vs, ⟨o, ho, hc, n, hd⟩, rs, hx⟩
theorem SrcZ.zip (hh : A.handled = none) {N l1 l2 : Addr} {xs ys : List PV} {elts : List Expr} {k : Nat} {pos : Pos} (hl : ys.length = xs.length) (hN : W.hB.objs.size <= N) (n1 : l1 < N) (n2 : l2 < N) (xZ : ∀ a, ZP N a -> X a) :
    SrcZ W A (N + 4) (ZP N) (.Tuple elts k pos) (List.zipWith (fun x y => .tuple [x, y]) xs ys) X (ZipSt W X N l1 l2 xs ys) := by
  have D : ZipApart (N + 4) (N + 2) (N + 3) N (N + 1) l1 l2 := zipApart_new n1 n2
  have plc : ∀ {i h}, ZipSt W X N l1 l2 xs ys i h -> Plc W (ZP N) h := fun st a z => ⟨Nat.le_trans hN z.1, st.obj a z⟩
  have same : ∀ {s : Shared} {h' : Heap}, (∀ c o, c ≠ N + 4 -> c ≠ N + 3 -> c ≠ N -> c ≠ N + 1 -> s.heap.get? c = some o -> h'.get? c = some o) -> ∀ b o, ¬ ZP N b -> s.heap.get? b = some o -> h'.get? b = some o := fun hk b o z e =>
    hk b o (fun q => z (q ▸ zp N 4)) (fun q => z (q ▸ zp N 3)) (fun q => z (q ▸ zp N 0)) (fun q => z (q ▸ zp N 1)) e
  constructor
  · intro i h h' st hr hi
    obtain ⟨hz, hTI, ⟨x, y, hTO⟩, ⟨o1, h1, c1, d1⟩, ⟨o2, h2, c2, d2⟩, r1, r2⟩ := st
    have q3 : Value.type "tuple" ≠ .none /\ Value.type "tuple" ≠ .type "frame" := by decide
    have q4 : Value.type "zip" ≠ .none /\ Value.type "zip" ≠ .type "frame" := by decide
    exact ⟨hi _ _ (zp N 4) hz q4.1 q4.2, hi _ _ (zp N 2) hTI q3.1 q3.2, ⟨x, y, hi _ _ (zp N 3) hTO q3.1 q3.2⟩, ⟨o1, hi _ _ (zp N 0) h1 (by rw [c1]; exact typ_nn) (by rw [c1]; decide), c1, d1⟩,
      ⟨o2, hi _ _ (zp N 1) h2 (by rw [c2]; exact typ_nn) (by rw [c2]; decide), c2, d2⟩, hr _ _ r1, hr _ _ r2⟩
  · intro i s p Q E st B pX hp hQ
    have st0 := st
    obtain ⟨hz, hTI, ⟨x, y, hTO⟩, i1, i2, r1, r2⟩ := st
    obtain ⟨vs, l1', rv, nx1⟩ := rep_list r1
    obtain ⟨us, l2', ru, nx2⟩ := rep_list r2
    rw [List.getElem?_zipWith] at hp
    obtain ⟨px, hpx, py, hpy, rfl⟩ : ∃ a, xs[i]? = some a /\ ∃ b, ys[i]? = some b /\ p = .tuple [a, b] := by
      cases e1 : xs[i]? with
      | none => rw [e1] at hp; cases hp
      | some a =>
        cases e2 : ys[i]? with
        | none => rw [e1, e2] at hp; cases hp
        | some b => rw [e1, e2] at hp; cases hp; exact ⟨a, rfl, b, rfl, rfl⟩
    obtain ⟨v, hv, rv'⟩ := rv.get hpx
    obtain ⟨u, hu, ru'⟩ := ru.get hpy
    refine wpAny_pyNext_zip_item D hz hTI hTO i1 i2 l1' l2' (x := v) (y := u) (by simpa using hv) (by simpa using hu) fun h' a1 a2 a3 a4 a5 a6 hk => hQ _ _ fun Q' E' hq => ?_
    have t1 : Step W (ZP N) s { s with heap := h' } := Step.zs (tk := s.toks) B (plc st0) (same hk) (by omega)
    refine wpAny_letOwnedTupleGo_zip a1 fun h2 b1 hs2 => ?_
    have ne : ∀ b, b ≠ N + 4 -> ∀ o, h'.get? b = some o -> h2.get? b = some o := fun b hb o e => hs2.extBut b o hb e
    have q4 : Value.type "zip" ≠ .none /\ Value.type "zip" ≠ .type "frame" /\ Value.type "zip" ≠ .type "code" := by decide
    have t2 : Step W (ZP N) { s with heap := h' } { s with heap := h2 } := Step.one (tk := s.toks) t1.base a1 (Nat.le_trans hN (Nat.le_add_right _ 4)) typ_nn q4.2.2 q4.2.1 hs2 |>.mono fun a _ q => by subst q; exact zp N 4
    have hsz : N + 4 < s.heap.objs.size := Heap.lt_size hz
    have t := t1.trans t2
    have kr : ∀ v p, Rep W s.heap X v p -> Rep W h2 X v p := fun v p r => r.keeps t.keeps fun a q => xZ a q
    refine hq { s with heap := h2 } ⟨b1, ne _ D.TIz _ (hk _ _ D.TIz D.TITO D.TIi1 D.TIi2 hTI), ⟨_, _, ne _ D.TOz _ a2⟩, ?_, ?_, kr _ _ r1, kr _ _ r2⟩ t ?_
    · obtain ⟨o, e, r⟩ := a3; exact ⟨o, ne _ D.i1z _ e, r⟩
    · obtain ⟨o, e, r⟩ := a4; exact ⟨o, ne _ D.i2z _ e, r⟩
    · exact .tuple (vs := [v, u]) (n := 0) (ne _ (Nat.ne_of_gt hsz) _ a5) rfl rfl (fun q => Nat.lt_irrefl _ (pX _ q)) (.cons (kr _ _ rv') (.cons (kr _ _ ru') .nil))
  · intro s Q E st B hQ
    have st0 := st
    obtain ⟨hz, hTI, ⟨x, y, hTO⟩, i1, i2, r1, r2⟩ := st
    obtain ⟨vs, l1', rv, nx1⟩ := rep_list r1
    obtain ⟨us, l2', ru, nx2⟩ := rep_list r2
    refine with_size (wpAny_pyNext_zip_end hh D hz hTI hTO i1 i2 l1' l2' (.inl (by
      have := rv.length
      rw [List.length_zipWith, hl, Nat.min_self]
      simp [this])) fun h' hk hs => hQ _ (Step.zs (tk := s.toks) B (plc st0) (same hk) hs))
  · intro i h st a z
    obtain ⟨o, a1, a2, a3, a4, _⟩ := st.obj a z
    exact ⟨o, a1, a2, a3, a4⟩
end
section
variable {W : Wd} {G : Gl} {n : Nat} {J : I} {sc : Scope} {σ : Vars} {env : Env} {A : Around} {X X' : Addr -> Prop} {s s' : Shared} {E : Value -> Shared -> Prop} {old : Nat}
theorem call_by (Yh : Hy W G n) (SE : SndE W n J) (H : Here W n A X sc σ env s) {f : Str} {fv : Value} {np pos : Pos} {args : List Expr} (ht : topName sc σ f = true) (g : GlobAt W f fv) (kp : Keeper1 W fv) (h0 : args.any isStar = false)
    {γ : Type} {k : List PV -> Out γ} (hne : (evList J sc σ args).bind k ≠ .stuck) {P : Value -> Shared -> Prop}
    (h : ∀ vs ps s1, Reps W s1.heap X vs ps -> Step W NoA s s1 -> k ps ≠ .stuck -> (evList J sc σ args).bind k = k ps -> wpAny (model W.prog W.w) A (call fv vs) P (Epost W X s ((evList J sc σ args).bind k)) s1) :
    wpAny (model W.prog W.w) A (eval (.Call (.Name f np) args [] pos) env) P (Epost W X s ((evList J sc σ args).bind k)) s := by
  obtain ⟨g1, g2, g3⟩ := topName_spec ht
  refine wpAny_Call_ofName (wpAny_Name (loadName_glob Yh.ok H.S.base H.O g2 g ?_) g3)
  refine callWith_of (P := W.K.In) (by rw [starEach_any env pos h0]; rfl) (keeper_of kp) (evalArgs_any h0 (then_ hne (snd_evList SE args s H) fun va a s1 ra t1 hk1 c1 => ⟨Yh.ok.inK t1.base, ?_⟩))
  exact h va a s1 ra t1 hk1 c1
theorem raise_exc (Yh : Hy W G n) {x : Sem Value} {Q : Flow -> Shared -> Prop} (hh : A.handled = none)
    (h : wpAny (model W.prog W.w) A x (fun v s1 => ∃ pa, Base W s1.heap /\ Exc W s1.heap X old (fun o => o = none) v pa /\ E v s1) E s) : wpAny (model W.prog W.w) A (raiseStmt env (some x) none) Q E s := by
  unfold raiseStmt
  refine wpAny_bind (wpAny_mono h (fun v s1 h1 => ?_) fun _ _ x => x)
  obtain ⟨pa, B, ⟨ea, dx, vs, what, t1, t2, tw, hs1, hs2, n, va, sl, sld, rfl, q2, q3, q4, q5, q6, q7, q8⟩, hE⟩ := h1
  have hv1 : vs[1]? = some .none := by
    rcases q8 with ⟨a, _⟩ | ⟨T, oT, ts, f, r1, r2, r3, r4, r5, r6, r7, r8⟩
    · exact a
    · cases r8
  have XK := Yh.ok.inK B
  have L0 : Looks (model W.prog W.w) s1.heap (typeOf (.ref ea)) (.ref W.ec) := (Looks.ld q4).andThen .now
  have L1 : Looks (model W.prog W.w) s1.heap (isSubtype (.ref W.ec) (.type "BaseException")) true := looks_mroIn XK Yh.sub
  have L2 : Looks (model W.prog W.w) s1.heap (typeOf (.ref W.ec)) (.type "type") := looks_typeIn XK Yh.typ
  have L3 : Looks (model W.prog W.w) s1.heap (isType (.ref ea)) false := (Looks.ld q4).andThen .now
  have L4 : Looks (model W.prog W.w) s1.heap (isInstance (.ref ea) (.type "BaseException")) true := L0.andThen L1
  have L5 : Looks (model W.prog W.w) s1.heap (excFromValue (.ref ea) "exceptions must derive from BaseException") (.ref ea) := by
    unfold excFromValue isExcClass
    refine Looks.andThen (L3.andThen .now) ?_
    simp only [Bool.false_eq_true, if_false]
    refine L4.andThen ?_
    simp only [if_true]
    exact .now
  have L6 : Looks (model W.prog W.w) s1.heap (raisedInstance (.ref ea)) (.ref ea) := by
    unfold raisedInstance
    exact L0.andThen (L2.andThen .now)
  refine wpAny_bind (wpAny_pure (wpAny_bind (wpAny_holding (L5.here (wpAny_bind (L3.here ?_))))))
  simp only [Bool.false_eq_true, if_false]
  refine wpAny_bind (L6.here ?_)
  unfold setFlight
  refine wpAny_bind (wpAny_bind (wpAny_field q4 rfl hv1 ?_))
  rw [if_neg (by decide)]
  exact wpAny_pure (wpAny_raiseNew_none hh hE)
end
section
variable {W : Wd} {G : Gl} {n : Nat} {J : I} {sc sc' : Scope} {σ σ' : Vars} {env : Env} {A : Around} {X X' Y : Addr -> Prop} {s s' s'' : Shared} {E : Value -> Shared -> Prop} {L : Addr} {old : Nat}
theorem Epost.toB0 {α : Type} {r : Out α} {e : Value} (H : Run W n A X sc σ env L old s) (q : Epost W X s r e s') : BEpost W X L old s r e s' := by
  obtain ⟨pa, e1, x, t⟩ := q
  exact ⟨pa, e1, (x.mono H.O fun o z => z).flow fun o z => z.elim .inl fun z => .inr (.inl z), t.no⟩
theorem isTup_eq {t : Expr} (h : isTup t = true) : ∃ elts k p, t = .Tuple elts k p := by
  induction t using PySem.Expr.casesOn with
  | Tuple elts k p => exact ⟨elts, k, p, rfl⟩
  | _ => exact nomatch h
theorem zip_is {h : Heap} {vals : List Value} {vs : List PV} (hz : zipP vs ≠ .stuck) (r : Reps W h X vals vs) : ∃ xs ys va vb, vs = [.list xs, .list ys] /\ vals = [va, vb] /\ ys.length = xs.length /\ Rep W h X va (.list xs) /\ Rep W h X vb (.list ys) := by
  induction vs using List.casesOn with
  | nil => exact (hz rfl).elim
  | cons a q =>
    obtain ⟨xs, rfl⟩ := onList_is (v := a) hz
    obtain ⟨b, rfl⟩ := only_is (l := q) (f := fun b => onList b fun ys => if ys.length = xs.length then Out.ok (List.zipWith (fun x y => PV.tuple [x, y]) xs ys) else .stuck) hz
    have hz2 : onList b (fun ys => if ys.length = xs.length then Out.ok (List.zipWith (fun x y => PV.tuple [x, y]) xs ys) else .stuck) ≠ .stuck := hz
    obtain ⟨ys, rfl⟩ := onList_is hz2
    have hl := ite_is (show (if ys.length = xs.length then Out.ok (List.zipWith (fun x y => PV.tuple [x, y]) xs ys) else .stuck) ≠ .stuck from hz)
    obtain ⟨va, vb, rfl, ra, rb⟩ := r.is2
    exact ⟨xs, ys, va, vb, rfl, rfl, hl, ra, rb⟩
theorem snd_zip (Yh : Hy W G n) (SE : SndE W n J) (SB : SndB W n J) (H : Run W n A X sc σ env L old s) {t iter : Expr} {body : List Stmt} {pos : Pos} (ht : isTupT t = true)
    (hne : zipForP J sc σ t iter body ≠ .stuck) :
    wpAny (model W.prog W.w) A (exec (.For t iter body [] pos) env) (BPost W X sc env L old s (zipForP J sc σ t iter body)) (BEpost W X L old s (zipForP J sc σ t iter body)) s := by
  obtain ⟨args, hz⟩ := onSome_is hne
  have hc := ite_is (show (if (topName sc σ "zip" && isTup t) = true then (evList J sc σ args).bind fun vs => (zipP vs).bind fun items => loopP (fun σ' => J.b sc σ' body) sc t items σ else .stuck) ≠ .stuck from fun q => hne (by
    unfold zipForP
    rw [hz]; exact q))
  have e0 : zipForP J sc σ t iter body = (evList J sc σ args).bind fun vs => (zipP vs).bind fun items => loopP (fun σ' => J.b sc σ' body) sc t items σ := by
    unfold zipForP
    rw [hz]; exact if_pos hc
  rw [e0] at hne ⊢
  rw [Bool.and_eq_true] at hc
  obtain ⟨elts, k, tp, rfl⟩ := isTup_eq hc.2
  obtain ⟨np, ip, rfl, h0⟩ : ∃ np ip, iter = .Call (.Name "zip" np) args [] ip /\ args.any isStar = false := by
    obtain ⟨⟨fn, as, ks, ip⟩, hq, hz⟩ := Option.bind_eq_some_iff.mp hz
    obtain ⟨f, hf, hz⟩ := Option.bind_eq_some_iff.mp hz
    obtain ⟨np, rfl⟩ := vName_eq hf
    have hz : (if (isE ks && (f == "zip" && !as.any isStar)) = true then some as else none) = some args := hz
    by_cases hq2 : (isE ks && (f == "zip" && !as.any isStar)) = true
    · rw [if_pos hq2] at hz
      rw [Bool.and_eq_true, Bool.and_eq_true] at hq2
      have ef : f = "zip" := eq_of_beq hq2.2.1
      exact ⟨np, ip, by rw [vCall_eq hq, isE_eq hq2.1, Option.some.inj hz, ef], by rw [<- Option.some.inj hz]; exact (Bool.not_eq_true' _).mp hq2.2.2⟩
    · rw [if_neg hq2] at hz; exact nomatch hz
  refine wpAny_For (wpAny_mono (call_by Yh SE H.here hc.1 Yh.zip (.inl nofun) h0 hne fun vs ps s1 r1 t1 hk hq => ?_) (fun _ _ q => q) fun _ _ q => q.toB0 H) (fun x => rfl)
  rw [hq]
  obtain ⟨xs, ys, va, vb, rfl, rfl, hl, ra, rb⟩ := zip_is (bind_ne hk) r1
  have e1 : (zipP [.list xs, .list ys]) = .ok (List.zipWith (fun x y => .tuple [x, y]) xs ys) := if_pos hl
  rw [e1] at hk ⊢
  obtain ⟨l1, o1, vs1, n1, rfl, _⟩ := ra.isList
  obtain ⟨l2, o2, vs2, n2, rfl, _⟩ := rb.isList
  obtain ⟨vs, h1, _, _⟩ := rep_list ra
  obtain ⟨us, h2, _, _⟩ := rep_list rb
  refine call_zip_2 h1 h2 fun h' z1 z2 z3 z4 z5 hsz hkp => wpAny_pyIter_zip z1 ?_
  have t2 : Step W NoA s1 { s1 with heap := h' } := Step.of_all (tk := s1.toks) t1.base hkp (by omega)
  refine snd_loop (Z := ZP s1.heap.objs.size) SB H (t1.trans t2) (fun a q => Nat.le_trans t1.size q.1) (fun X' xZ hX => ⟨_, SrcZ.zip H.S.hand hl t1.base.size (by obtain ⟨o, e, _⟩ := h1; exact Heap.lt_size e) (by obtain ⟨o, e, _⟩ := h2; exact Heap.lt_size e) xZ, z1, z2, ⟨_, _, z3⟩, z4, z5, ?_, ?_⟩) hk
  · exact (Rep.widen (fun a ha q => (hX a (Nat.lt_of_lt_of_le ha t2.size) q).elim id fun z => absurd ha (Nat.not_lt.mpr z.1)) ra).step t2
  · exact (Rep.widen (fun a ha q => (hX a (Nat.lt_of_lt_of_le ha t2.size) q).elim id fun z => absurd ha (Nat.not_lt.mpr z.1)) rb).step t2
theorem notTup {t : Expr} {I : Value} (h : isTupT t = false) : ∀ v : Value, letOwnedTupleGo t I v = pure () := by
  induction t using PySem.Expr.casesOn with
  | Tuple => exact nomatch h
  | List => exact nomatch h
  | _ => exact fun _ => rfl
theorem notSet {iter : Expr} (h : isSetE iter = false) : ∀ x : Value, foldedSetIterable iter env x = pure x := by
  induction iter using PySem.Expr.casesOn with
  | Set => exact nomatch h
  | _ => exact fun _ => rfl
theorem exc_is {ps : List PV} (h : excP ps ≠ .stuck) : ∃ pa, excP ps = .err pa := by
  induction ps using List.casesOn with
  | nil => exact (h rfl).elim
  | cons a r =>
    obtain ⟨x, rfl⟩ := onStr_is (v := a) h
    induction r using List.casesOn with
    | nil => exact ⟨_, rfl⟩
    | cons b r =>
      obtain rfl := onNil_is (l := r) (x := .err b) h
      exact ⟨_, rfl⟩
theorem snd_stmt (Yh : Hy W G n) (SE : SndE W n J) (ST : SndT W n J) (SB : SndB W n J) (H : Run W n A X sc σ env L old s) {st : Stmt} (hne : exS J sc σ st ≠ .stuck) :
    wpAny (model W.prog W.w) A (exec st env) (BPost W X sc env L old s (exS J sc σ st)) (BEpost W X L old s (exS J sc σ st)) s := by
  induction st using PySem.Stmt.casesOn with
  | Expr e pos =>
    have e0 : exS J sc σ (.Expr e pos) = if isComp e then .stuck else (J.e sc σ e).bind fun _ => .ok (.next σ) := rfl
    rw [e0] at hne ⊢
    cases hc : isComp e with
    | true => rw [hc] at hne; exact (hne rfl).elim
    | false =>
      rw [hc] at hne
      simp only [Bool.false_eq_true, if_false] at hne ⊢
      refine wpAny_Expr_any (thenS H hne (SE.at H.here) fun va a s1 ra t1 hk1 c1 => ?_) ?_ ?_
      · rw [c1]
        exact .inl ⟨σ, rfl, rfl, H.F.no t1, StepS.of t1⟩
      · unfold interactive
        rw [H.F.scope, H.F.kind]; rfl
      · clear hne e0 H
        induction e using PySem.Expr.casesOn with
        | ListComp => exact nomatch hc
        | SetComp => exact nomatch hc
        | DictComp => exact nomatch hc
        | _ => rfl
  | Assign ts e pos =>
    induction ts using List.casesOn with
    | nil => exact (hne rfl).elim
    | cons t r =>
      induction r using List.casesOn with
      | cons _ _ => exact (hne rfl).elim
      | nil =>
        have e0 : exS J sc σ (.Assign [t] e pos) = asgP J sc σ t e := rfl
        rw [e0] at hne ⊢
        induction t using PySem.Expr.casesOn with
        | Name x xp => exact snd_AsgName Yh SE ST H hne
        | Tuple ts k tp => exact snd_AsgTuple SE H hne
        | _ => exact (hne rfl).elim
  | If t b o pos =>
    have e0 : exS J sc σ (.If t b o pos) = (J.t sc σ t).bind fun c => if c then J.b sc σ b else J.b sc σ o := rfl
    rw [e0] at hne ⊢
    refine wpAny_If (thenS H hne (ST.at H.here) fun va q s1 ra t1 hk1 c1 => ?_)
    cases (show va = q from ra)
    rw [c1]
    have H1 := H.no t1
    cases va
    · exact wpAny_mono (SB sc σ o env A X s1 L old H1 hk1) (fun _ _ q => BPost.back (StepS.of t1) q) fun _ _ q => BEpost.back t1.no q
    · exact wpAny_mono (SB sc σ b env A X s1 L old H1 hk1) (fun _ _ q => BPost.back (StepS.of t1) q) fun _ _ q => BEpost.back t1.no q
  | Return e pos =>
    induction e using Option.casesOn with
    | none => exact wpAny_Return_none (.inr ⟨.none, .none, rfl, rfl, .none, StepS.refl H.S.base⟩)
    | some e =>
      have e0 : exS J sc σ (.Return (some e) pos) = (J.e sc σ e).bind fun v => .ok (.ret v) := rfl
      rw [e0] at hne ⊢
      refine wpAny_Return_some (thenS H hne (SE.at H.here) fun va a s1 ra t1 hk1 c1 => ?_)
      rw [c1]
      exact .inr ⟨a, va, rfl, rfl, ra, StepS.of t1⟩
  | For t iter body els pos =>
    induction els using List.casesOn with
    | cons _ _ => exact (hne rfl).elim
    | nil =>
      have e0 : exS J sc σ (.For t iter body [] pos) = if isTupT t then zipForP J sc σ t iter body else if isSetE iter then .stuck else (iterP J sc σ iter).bind fun items => loopP (fun σ' => J.b sc σ' body) sc t items σ := rfl
      rw [e0] at hne ⊢
      cases ht : isTupT t with
      | true =>
        rw [ht] at hne
        simp only [if_true] at hne ⊢
        exact snd_zip Yh SE SB H ht hne
      | false =>
        rw [ht] at hne
        cases hs : isSetE iter with
        | true => rw [hs] at hne; exact (hne rfl).elim
        | false =>
          rw [hs] at hne
          simp only [Bool.false_eq_true, if_false] at hne ⊢
          refine wpAny_For (wpAny_mono (snd_iter Yh SE H.here (bind_ne hne)) (fun xv s1 h1 => wpAny_mono h1 (fun it s2 h2 => ?_) fun _ _ q => q.toB H) fun _ _ q => q.toB H) ?_
          · obtain ⟨items, I, hi, hl, rfl, t2, hI0, hI2, src⟩ := h2
            rw [hi] at hne ⊢
            exact snd_loop (Z := fun a => a = I) SB H t2 (fun a q => q ▸ hI0) (fun X' xI hX => by
              obtain ⟨St, S, st⟩ := src X' (xI I rfl) hX
              exact ⟨St, S.toZ (xI I rfl) (notTup ht), st⟩) hne
          · exact notSet hs
  | Raise e c pos =>
    have e0 : exS J sc σ (.Raise e c pos) = raiseP J sc σ e c := rfl
    rw [e0] at hne ⊢
    obtain ⟨e, rfl⟩ := onSome_is hne
    have hn : c.isNone = true := onTrue_is (b := c.isNone) hne
    obtain rfl := Option.isNone_iff_eq_none.mp hn
    obtain ⟨⟨fn, args, kws, cp⟩, hv⟩ := onSome_is (o := vCall e) hne
    obtain rfl := vCall_eq hv
    obtain ⟨f, hf⟩ := onSome_is (o := vName fn) hne
    obtain ⟨np, rfl⟩ := vName_eq hf
    obtain rfl := onNil_is (l := kws) hne
    have hc := ite_is (show (if (topName sc σ f && !args.any isStar && f == "CodeError") = true then (evList J sc σ args).bind excP else .stuck) ≠ .stuck from hne)
    have e1 : raiseP J sc σ (some (.Call (.Name f np) args [] cp)) none = (evList J sc σ args).bind excP := if_pos hc
    rw [e1] at hne ⊢
    rw [Bool.and_eq_true, Bool.and_eq_true] at hc
    obtain ⟨⟨hc1, hc2⟩, hc3⟩ := hc
    have hc2 : args.any isStar = false := (Bool.not_eq_true' _).mp hc2
    obtain rfl : f = "CodeError" := eq_of_beq hc3
    obtain ⟨cv, g, kp, run⟩ := Yh.exc
    rw [arm_exec_Raise]
    refine wpAny_bind (wpAny_standAt (raise_exc (old := s.heap.objs.size) (X := X) Yh H.S.hand (wpAny_bind (wpAny_mono (call_by Yh SE H.here hc1 g kp hc2 hne fun vs ps s1 r1 t1 hk hc => ?_) (fun v s2 q => wpAny_bind (wpAny_standAt (wpAny_pure q))) fun _ _ q => ?_))))
    · rw [hc]
      obtain ⟨pa, hpa⟩ := exc_is hk
      refine wpAny_mono (run A X s1 vs ps pa _ (H.here.step t1).S r1 hpa) (fun v s2 q => ?_) fun _ _ q => q
      have tt := t1.trans q.2
      refine ⟨pa, q.2.base, q.1.mono t1.size fun _ z => z, ?_⟩
      exact ⟨pa, hpa, (q.1.mono (Nat.le_trans H.O t1.size) fun o z => .inl z), tt.no⟩
    · exact q.toB0 H
  | _ => exact (hne rfl).elim
theorem snd_block (Yh : Hy W G n) (SE : SndE W n J) (ST : SndT W n J) (SB : SndB W n J) : ∀ (b : List Stmt) (σ : Vars) (s : Shared), Run W n A X sc σ env L old s -> exB J sc b σ ≠ .stuck ->
    wpAny (model W.prog W.w) A (execs b env) (BPost W X sc env L old s (exB J sc b σ)) (BEpost W X L old s (exB J sc b σ)) s
  | [], σ, s, H, _ => wpAny_execs_nil (.inl ⟨σ, rfl, rfl, H.F, StepS.refl H.S.base⟩)
  | st :: r, σ, s, H, hne => by
    have e0 : exB J sc (st :: r) σ = (exS J sc σ st).bind fun q => match q with
      | .next σ' => exB J sc r σ'
      | .ret v => .ok (.ret v) := rfl
    rw [e0] at hne ⊢
    refine wpAny_execs_cons (wpAny_mono (snd_stmt Yh SE ST SB H (bind_ne hne)) (fun f s1 q => ?_) fun e s1 q => ?_)
    · rcases q with ⟨σ', e1, rfl, F1, t1⟩ | ⟨p, v, e1, rfl, r1, t1⟩
      · have hk := bind_ne2 hne e1
        rw [e1]
        exact wpAny_mono (snd_block Yh SE ST SB r σ' s1 (H.go t1 F1) hk) (fun _ _ q => BPost.back t1 q) fun _ _ q => BEpost.back (H.yo t1) q
      · rw [e1]
        exact .inr ⟨p, v, rfl, rfl, r1, t1⟩
    · obtain ⟨pa, e1, x, t⟩ := q
      exact ⟨pa, by rw [e1]; rfl, x, t⟩
theorem Run.up (H : Run W (n + 3) A X sc σ env L old s) : Run W n A X sc σ env L old s := H.less (by omega)
theorem run_sound (Yh : Hy W G n) : ∀ k, SndE W (n + 3 * k) (run G k) /\ SndT W (n + 3 * k) (run G k) /\ SndB W (n + 3 * k) (run G k)
  | 0 => ⟨fun _ _ _ _ _ _ _ _ _ _ h => (h rfl).elim, fun _ _ _ _ _ _ _ _ _ _ h => (h rfl).elim, fun _ _ _ _ _ _ _ _ _ _ h => (h rfl).elim⟩
  | k + 1 => by
    obtain ⟨a, b, c⟩ := run_sound Yh k
    have Y2 : Hy W G (n + 3 * k) := Yh.up (by omega)
    have he : n + 3 * (k + 1) = (n + 3 * k) + 3 := by omega
    rw [he]
    refine ⟨fun sc σ e env A X s S T O hne => snd_e Y2 a b ⟨S, T, O⟩ hne, fun sc σ e env A X s S T O hne => snd_t Y2 a b ⟨S, T, O⟩ hne, fun sc σ bl env A X s L old R hne => snd_block Y2 a b c bl σ s R.up hne⟩
end
noncomputable def fArgs (s : Stmt) : Arguments := match s with
  | .FunctionDef _ a _ _ _ _ _ _ _ _ => a
  | _ => default
noncomputable def fBody (s : Stmt) : List Stmt := match s with
  | .FunctionDef _ _ b _ _ _ _ _ _ _ => b
  | _ => []
noncomputable def fScope (s : Stmt) : Scope := match s with
  | .FunctionDef _ _ _ _ _ _ c _ _ _ => c
  | _ => default
noncomputable def cBody (s : Stmt) : List Stmt := match s with
  | .ClassDef _ _ _ b _ _ _ _ _ _ _ => b
  | _ => []
noncomputable def d_GateError : {x : Stmt // PySem.Challenge.pw_nu0355_01.main.body[1]? = some x} := by
  refine ⟨?x, ?h⟩
  case h =>
    conv => lhs; whnf
noncomputable def d_GateError_init : {x : Stmt // (cBody d_GateError.1)[0]? = some x} := by
  refine ⟨?x, ?h⟩
  case h =>
    conv => lhs; whnf
noncomputable def d_GateError_told : {x : Stmt // (cBody d_GateError.1)[1]? = some x} := by
  refine ⟨?x, ?h⟩
  case h =>
    conv => lhs; whnf
noncomputable def d_signed : {x : Stmt // PySem.Challenge.pw_nu0355_01.main.body[3]? = some x} := by
  refine ⟨?x, ?h⟩
  case h =>
    conv => lhs; whnf
noncomputable def d_fits_signed : {x : Stmt // PySem.Challenge.pw_nu0355_01.main.body[4]? = some x} := by
  refine ⟨?x, ?h⟩
  case h =>
    conv => lhs; whnf
noncomputable def d_little : {x : Stmt // PySem.Challenge.pw_nu0355_01.main.body[5]? = some x} := by
  refine ⟨?x, ?h⟩
  case h =>
    conv => lhs; whnf
noncomputable def d_from_little : {x : Stmt // PySem.Challenge.pw_nu0355_01.main.body[6]? = some x} := by
  refine ⟨?x, ?h⟩
  case h =>
    conv => lhs; whnf
noncomputable def d_Order : {x : Stmt // PySem.Challenge.pw_nu0355_01.main.body[32]? = some x} := by
  refine ⟨?x, ?h⟩
  case h =>
    conv => lhs; whnf
noncomputable def d_Order_init : {x : Stmt // (cBody d_Order.1)[0]? = some x} := by
  refine ⟨?x, ?h⟩
  case h =>
    conv => lhs; whnf
noncomputable def d_Order_told : {x : Stmt // (cBody d_Order.1)[1]? = some x} := by
  refine ⟨?x, ?h⟩
  case h =>
    conv => lhs; whnf
noncomputable def d_is_alu : {x : Stmt // PySem.Challenge.pw_nu0355_01.main.body[33]? = some x} := by
  refine ⟨?x, ?h⟩
  case h =>
    conv => lhs; whnf
noncomputable def d_is_jumping : {x : Stmt // PySem.Challenge.pw_nu0355_01.main.body[34]? = some x} := by
  refine ⟨?x, ?h⟩
  case h =>
    conv => lhs; whnf
noncomputable def d_operation : {x : Stmt // PySem.Challenge.pw_nu0355_01.main.body[35]? = some x} := by
  refine ⟨?x, ?h⟩
  case h =>
    conv => lhs; whnf
noncomputable def d_is_register : {x : Stmt // PySem.Challenge.pw_nu0355_01.main.body[36]? = some x} := by
  refine ⟨?x, ?h⟩
  case h =>
    conv => lhs; whnf
noncomputable def d_width_of : {x : Stmt // PySem.Challenge.pw_nu0355_01.main.body[37]? = some x} := by
  refine ⟨?x, ?h⟩
  case h =>
    conv => lhs; whnf
noncomputable def d_mode_of : {x : Stmt // PySem.Challenge.pw_nu0355_01.main.body[38]? = some x} := by
  refine ⟨?x, ?h⟩
  case h =>
    conv => lhs; whnf
noncomputable def d_alu_size : {x : Stmt // PySem.Challenge.pw_nu0355_01.main.body[39]? = some x} := by
  refine ⟨?x, ?h⟩
  case h =>
    conv => lhs; whnf
noncomputable def d_is_wide : {x : Stmt // PySem.Challenge.pw_nu0355_01.main.body[40]? = some x} := by
  refine ⟨?x, ?h⟩
  case h =>
    conv => lhs; whnf
noncomputable def d_is_jump : {x : Stmt // PySem.Challenge.pw_nu0355_01.main.body[41]? = some x} := by
  refine ⟨?x, ?h⟩
  case h =>
    conv => lhs; whnf
noncomputable def d_is_call : {x : Stmt // PySem.Challenge.pw_nu0355_01.main.body[42]? = some x} := by
  refine ⟨?x, ?h⟩
  case h =>
    conv => lhs; whnf
noncomputable def d_is_exit : {x : Stmt // PySem.Challenge.pw_nu0355_01.main.body[43]? = some x} := by
  refine ⟨?x, ?h⟩
  case h =>
    conv => lhs; whnf
noncomputable def d_is_branch : {x : Stmt // PySem.Challenge.pw_nu0355_01.main.body[44]? = some x} := by
  refine ⟨?x, ?h⟩
  case h =>
    conv => lhs; whnf
noncomputable def d_atomic_name : {x : Stmt // PySem.Challenge.pw_nu0355_01.main.body[45]? = some x} := by
  refine ⟨?x, ?h⟩
  case h =>
    conv => lhs; whnf
noncomputable def d_need : {x : Stmt // PySem.Challenge.pw_nu0355_01.main.body[49]? = some x} := by
  refine ⟨?x, ?h⟩
  case h =>
    conv => lhs; whnf
noncomputable def d_check_fields : {x : Stmt // PySem.Challenge.pw_nu0355_01.main.body[50]? = some x} := by
  refine ⟨?x, ?h⟩
  case h =>
    conv => lhs; whnf
noncomputable def d_check_end : {x : Stmt // PySem.Challenge.pw_nu0355_01.main.body[51]? = some x} := by
  refine ⟨?x, ?h⟩
  case h =>
    conv => lhs; whnf
noncomputable def d_check_extension : {x : Stmt // PySem.Challenge.pw_nu0355_01.main.body[52]? = some x} := by
  refine ⟨?x, ?h⟩
  case h =>
    conv => lhs; whnf
noncomputable def d_check_number : {x : Stmt // PySem.Challenge.pw_nu0355_01.main.body[53]? = some x} := by
  refine ⟨?x, ?h⟩
  case h =>
    conv => lhs; whnf
noncomputable def d_check_alu : {x : Stmt // PySem.Challenge.pw_nu0355_01.main.body[54]? = some x} := by
  refine ⟨?x, ?h⟩
  case h =>
    conv => lhs; whnf
noncomputable def d_check_jump : {x : Stmt // PySem.Challenge.pw_nu0355_01.main.body[55]? = some x} := by
  refine ⟨?x, ?h⟩
  case h =>
    conv => lhs; whnf
noncomputable def d_check_jumping : {x : Stmt // PySem.Challenge.pw_nu0355_01.main.body[56]? = some x} := by
  refine ⟨?x, ?h⟩
  case h =>
    conv => lhs; whnf
noncomputable def d_check_load : {x : Stmt // PySem.Challenge.pw_nu0355_01.main.body[57]? = some x} := by
  refine ⟨?x, ?h⟩
  case h =>
    conv => lhs; whnf
noncomputable def d_check_stx : {x : Stmt // PySem.Challenge.pw_nu0355_01.main.body[58]? = some x} := by
  refine ⟨?x, ?h⟩
  case h =>
    conv => lhs; whnf
noncomputable def d_check_order : {x : Stmt // PySem.Challenge.pw_nu0355_01.main.body[59]? = some x} := by
  refine ⟨?x, ?h⟩
  case h =>
    conv => lhs; whnf
noncomputable def d_pack : {x : Stmt // PySem.Challenge.pw_nu0355_01.main.body[60]? = some x} := by
  refine ⟨?x, ?h⟩
  case h =>
    conv => lhs; whnf
noncomputable def d_second_half : {x : Stmt // PySem.Challenge.pw_nu0355_01.main.body[61]? = some x} := by
  refine ⟨?x, ?h⟩
  case h =>
    conv => lhs; whnf
noncomputable def d_unpack : {x : Stmt // PySem.Challenge.pw_nu0355_01.main.body[62]? = some x} := by
  refine ⟨?x, ?h⟩
  case h =>
    conv => lhs; whnf
noncomputable def d_pack_all : {x : Stmt // PySem.Challenge.pw_nu0355_01.main.body[63]? = some x} := by
  refine ⟨?x, ?h⟩
  case h =>
    conv => lhs; whnf
noncomputable def d_unpack_all : {x : Stmt // PySem.Challenge.pw_nu0355_01.main.body[64]? = some x} := by
  refine ⟨?x, ?h⟩
  case h =>
    conv => lhs; whnf
noncomputable def d_law_codes : {x : Stmt // PySem.Challenge.pw_nu0355_01.main.body[66]? = some x} := by
  refine ⟨?x, ?h⟩
  case h =>
    conv => lhs; whnf
noncomputable def d_law_number : {x : Stmt // PySem.Challenge.pw_nu0355_01.main.body[67]? = some x} := by
  refine ⟨?x, ?h⟩
  case h =>
    conv => lhs; whnf
noncomputable def d_law_row : {x : Stmt // PySem.Challenge.pw_nu0355_01.main.body[68]? = some x} := by
  refine ⟨?x, ?h⟩
  case h =>
    conv => lhs; whnf
noncomputable def d_law_deed_is : {x : Stmt // PySem.Challenge.pw_nu0355_01.main.body[69]? = some x} := by
  refine ⟨?x, ?h⟩
  case h =>
    conv => lhs; whnf
noncomputable def d_law_jump_is : {x : Stmt // PySem.Challenge.pw_nu0355_01.main.body[70]? = some x} := by
  refine ⟨?x, ?h⟩
  case h =>
    conv => lhs; whnf
noncomputable def d_law_is : {x : Stmt // PySem.Challenge.pw_nu0355_01.main.body[71]? = some x} := by
  refine ⟨?x, ?h⟩
  case h =>
    conv => lhs; whnf
noncomputable def d_law_due : {x : Stmt // PySem.Challenge.pw_nu0355_01.main.body[72]? = some x} := by
  refine ⟨?x, ?h⟩
  case h =>
    conv => lhs; whnf
noncomputable def d_law_heard : {x : Stmt // PySem.Challenge.pw_nu0355_01.main.body[73]? = some x} := by
  refine ⟨?x, ?h⟩
  case h =>
    conv => lhs; whnf
noncomputable def d_law_row_right : {x : Stmt // PySem.Challenge.pw_nu0355_01.main.body[74]? = some x} := by
  refine ⟨?x, ?h⟩
  case h =>
    conv => lhs; whnf
noncomputable def d_law_made_right : {x : Stmt // PySem.Challenge.pw_nu0355_01.main.body[75]? = some x} := by
  refine ⟨?x, ?h⟩
  case h =>
    conv => lhs; whnf
noncomputable def d_law : {x : Stmt // PySem.Challenge.pw_nu0355_01.main.body[76]? = some x} := by
  refine ⟨?x, ?h⟩
  case h =>
    conv => lhs; whnf
noncomputable def dE (P : Params) (x : Str) (t : Tok) (v : Value) : DictEntry := ⟨PyData.keyHash P x, .str x t, v⟩
noncomputable def ob_2 (P : Params) : Obj := { cls := Value.none, data := Data.dict #[dE P "type.__subclasses__.Exception.0" 223 (.int 39 0), dE P "type.__subclasses__.Exception.n" 224 (.int 1 0)] 2 }
noncomputable def ob_3 (P : Params) : Obj := { cls := Value.type "dict", data := Data.dict #[dE P "__name__" 165 (.str "law_nu0355_01" 615), dE P "__doc__" 166 Value.none, dE P "__package__" 167 Value.none, dE P "__loader__" 168 (.builtin "__main__.__loader__#opaque"), dE P "__spec__" 169 Value.none, dE P "__annotations__" 170 (.ref 6), dE P "__builtins__" 171 (.ref 4), dE P "__file__" 173 (.str "/claim/cut.py" 172), dE P "__cached__" 174 Value.none, dE P "GateError" 226 (.ref 39), dE P "CodeError" 242 (.ref 52), dE P "signed" 252 (.ref 62), dE P "fits_signed" 260 (.ref 69), dE P "little" 266 (.ref 74), dE P "from_little" 275 (.ref 81), dE P "LD" 279 (.int 0 278), dE P "LDX" 281 (.int 1 280), dE P "ST" 283 (.int 2 282), dE P "STX" 285 (.int 3 284), dE P "ALU" 287 (.int 4 286), dE P "JMP" 289 (.int 5 288), dE P "JMP32" 291 (.int 6 290), dE P "ALU64" 293 (.int 7 292), dE P "BY_REGISTER" 295 (.int 8 294), dE P "WIDE" 297 (.int 24 296), dE P "CALL" 299 (.int 133 298), dE P "EXIT" 301 (.int 149 300), dE P "MODE_IMM" 303 (.int 0 302), dE P "MODE_ABS" 305 (.int 32 304), dE P "MODE_IND" 307 (.int 64 306), dE P "MODE_MEM" 309 (.int 96 308), dE P "MODE_MEMSX" 311 (.int 128 310), dE P "MODE_ATOMIC" 313 (.int 192 312), dE P "FETCH" 315 (.int 1 314), dE P "XCHG" 317 (.int 225 316), dE P "CMPXCHG" 319 (.int 241 318), dE P "DEEDS" 321 (.str "add sub mul div or  and lsh rsh neg mod xor mov arshend " 320), dE P "JUMPS" 323 (.str "ja  eq  gt  ge  set ne  sgt sge callexitlt  le  slt sle " 322), dE P "KNOWN" 325 (.int 14 324), dE P "Order" 372 (.ref 106), dE P "is_alu" 380 (.ref 117), dE P "is_jumping" 388 (.ref 124), dE P "operation" 396 (.ref 131), dE P "is_register" 403 (.ref 138), dE P "width_of" 411 (.ref 145), dE P "mode_of" 419 (.ref 152), dE P "alu_size" 427 (.ref 159), dE P "is_wide" 434 (.ref 166), dE P "is_jump" 441 (.ref 173), dE P "is_call" 448 (.ref 180), dE P "is_exit" 455 (.ref 187), dE P "is_branch" 462 (.ref 194), dE P "atomic_name" 471 (.ref 201), dE P "SLOT" 475 (.int 8 474), dE P "MOST_REGISTER" 477 (.int 10 476), dE P "need" 485 (.ref 208), dE P "check_fields" 492 (.ref 215), dE P "check_end" 499 (.ref 222), dE P "check_extension" 507 (.ref 229), dE P "check_number" 515 (.ref 236), dE P "check_alu" 523 (.ref 243), dE P "check_jump" 530 (.ref 250), dE P "check_jumping" 538 (.ref 257), dE P "check_load" 546 (.ref 264), dE P "check_stx" 554 (.ref 271), dE P "check_order" 562 (.ref 278), dE P "pack" 570 (.ref 285), dE P "second_half" 579 (.ref 292), dE P "unpack" 594 (.ref 300), dE P "pack_all" 603 (.ref 307), dE P "unpack_all" 614 (.ref 314), dE P "_law_codes" 623 (.ref 321), dE P "_law_number" 631 (.ref 328), dE P "_law_row" 637 (.ref 333), dE P "_law_deed_is" 650 (.ref 340), dE P "_law_jump_is" 663 (.ref 347), dE P "_law_is" 678 (.ref 354), dE P "_law_due" 684 (.ref 359), dE P "_law_heard" 692 (.ref 366), dE P "_law_row_right" 710 (.ref 373), dE P "_law_made_right" 716 (.ref 378), dE P "law" 722 (.ref 383)] 82 }
noncomputable def mk0 : Obj := { cls := Value.type "tuple", data := Data.seq #[] }
noncomputable def mk1 (x0 : String) (x1 : Nat) (x2 : String) (x3 : Nat) (x4 : String) (x5 : Nat) : Obj := { cls := Value.type "tuple", data := Data.seq #[Value.str (Str.ofString x0) x1, Value.str (Str.ofString x2) x3, Value.str (Str.ofString x4) x5] }
noncomputable def mk2 (x0 : String) (x1 : Nat) (x2 : String) (x3 : Nat) (x4 : Nat) (x5 : Int) (x6 : Int) (x7 : Nat) (x8 : Nat) (x9 : Nat) (x10 : Nat) (x11 : Nat) (x12 : Int) (x13 : Nat) : Obj := { cls := Value.type "code", data := Data.fields #[Value.str (Str.ofString x0) x1, Value.str (Str.ofString x2) x3, Value.str "/claim/cut.py" x4, Value.int x5 0, Value.int x6 0, Value.int 0 0, Value.int 0 0, Value.int 3 0, Value.ref x7, Value.bool Bool.true, Value.int 181 0, Value.ref x8, Value.none, Value.ref x9, Value.ref x10, Value.ref x11, Value.int x12 0, Value.int x5 0, Value.str "/claim/cut.py" x13] }
noncomputable def mk3 (x0 : String) (x1 : String) (x2 : Stmt) (x3 : Nat) (x4 : String) (x5 : Nat) (x6 : Nat) : FuncData := { name := Str.ofString x0, qualname := Str.ofString x1, params := fArgs x2, body := .stmts (fBody x2), scope := fScope x2, globals := 3, closure := [], defaults := Value.ref x3, kwdefaults := Value.none, doc := Value.none, pyModule := Value.str (Str.ofString x4) x5, annotations := Option.none, code := Value.ref x6, closureTuple := Value.none, builtins := 0 }
noncomputable def mk4 (x0 : String) (x1 : Nat) : Obj := { cls := Value.type "tuple", data := Data.seq #[Value.str (Str.ofString x0) x1] }
noncomputable def mk5 (x0 : String) (x1 : String) (x2 : Stmt) (x3 : String) (x4 : Nat) (x5 : Nat) : FuncData := { name := Str.ofString x0, qualname := Str.ofString x1, params := fArgs x2, body := .stmts (fBody x2), scope := fScope x2, globals := 3, closure := [], defaults := Value.none, kwdefaults := Value.none, doc := Value.none, pyModule := Value.str (Str.ofString x3) x4, annotations := Option.none, code := Value.ref x5, closureTuple := Value.none, builtins := 0 }
noncomputable def mk6 (x0 : String) (x1 : Nat) (x2 : String) (x3 : Nat) : Obj := { cls := Value.type "tuple", data := Data.seq #[Value.str (Str.ofString x0) x1, Value.str (Str.ofString x2) x3] }
noncomputable def mk7 (x0 : Nat) (x1 : Nat) : Obj := { cls := Value.type "getset_descriptor", data := Data.fields #[Value.str "__weakref__" x0, Value.ref x1, Value.builtin "ExceptionGroup.__weakref__", Value.none] }
noncomputable def mk8 (x0 : Int) (x1 : Nat) : Obj := { cls := Value.type "tuple", data := Data.seq #[Value.int x0 x1] }
noncomputable def mk9 (x0 : String) (x1 : Nat) (x2 : Nat) (x3 : Nat) (x4 : Int) (x5 : Int) (x6 : Nat) (x7 : Nat) (x8 : Nat) (x9 : Int) (x10 : Nat) : Obj := { cls := Value.type "code", data := Data.fields #[Value.str (Str.ofString x0) x1, Value.str (Str.ofString x0) x2, Value.str "/claim/cut.py" x3, Value.int x4 0, Value.int x5 0, Value.int 0 0, Value.int 0 0, Value.int 3 0, Value.ref x6, Value.bool Bool.true, Value.int 181 0, Value.ref x7, Value.none, Value.none, Value.none, Value.ref x8, Value.int x9 0, Value.int x4 0, Value.str "/claim/cut.py" x10] }
noncomputable def mk10 (x0 : String) (x1 : Nat) (x2 : String) (x3 : Nat) (x4 : String) (x5 : Nat) (x6 : String) (x7 : Nat) (x8 : String) (x9 : Nat) (x10 : String) (x11 : Nat) (x12 : String) (x13 : Nat) : Obj := { cls := Value.type "tuple", data := Data.seq #[Value.str (Str.ofString x0) x1, Value.str (Str.ofString x2) x3, Value.str (Str.ofString x4) x5, Value.str (Str.ofString x6) x7, Value.str (Str.ofString x8) x9, Value.str (Str.ofString x10) x11, Value.str (Str.ofString x12) x13] }
noncomputable def mk11 (x0 : String) (x1 : Nat) (x2 : String) (x3 : Nat) (x4 : String) (x5 : Nat) (x6 : String) (x7 : Nat) (x8 : String) (x9 : Nat) (x10 : String) (x11 : Nat) (x12 : String) (x13 : Nat) (x14 : String) (x15 : Nat) (x16 : String) (x17 : Nat) : Obj := { cls := Value.type "tuple", data := Data.seq #[Value.str (Str.ofString x0) x1, Value.str (Str.ofString x2) x3, Value.str (Str.ofString x4) x5, Value.str (Str.ofString x6) x7, Value.str (Str.ofString x8) x9, Value.str (Str.ofString x10) x11, Value.str (Str.ofString x12) x13, Value.str (Str.ofString x14) x15, Value.str (Str.ofString x16) x17] }
noncomputable def ob_15 : Obj := { cls := Value.type "tuple", data := Data.seq #[Value.type "Exception"] }
noncomputable def ob_22 : Obj := { cls := Value.type "tuple", data := Data.seq #[Value.none] }
noncomputable def ob_23 : Obj := mk0
noncomputable def ob_25 : Obj := mk1 "self" 204 "what" 205 "at" 206
noncomputable def ob_26 : Obj := mk0
noncomputable def ob_28 : Obj := mk2 "__init__" 201 "GateError.__init__" 202 203 4 3 23 24 25 26 27 207 208
noncomputable def fd_29 : FuncData := mk3 "__init__" "GateError.__init__" d_GateError_init.1 22 "ringgate.basics" 187 28
noncomputable def ob_29 : Obj := { cls := .type "function", data := .func fd_29 }
noncomputable def ob_30 : Obj := mk0
noncomputable def ob_32 : Obj := mk4 "self" 213
noncomputable def ob_33 : Obj := mk0
noncomputable def ob_35 : Obj := mk2 "told" 210 "GateError.told" 211 212 9 1 30 31 32 33 34 214 215
noncomputable def fd_36 : FuncData := mk5 "told" "GateError.told" d_GateError_told.1 "ringgate.basics" 187 35
noncomputable def ob_36 : Obj := { cls := .type "function", data := .func fd_36 }
noncomputable def ob_37 : Obj := mk6 "at" 217 "what" 218
noncomputable def ob_38 (P : Params) : Obj := { cls := Value.type "dict", data := Data.dict #[dE P "__module__" 196 (.str "ringgate.basics" 187), dE P "__firstlineno__" 200 (.int 2 199), dE P "__init__" 209 (.ref 29), dE P "told" 216 (.ref 36), dE P "__static_attributes__" 219 (.ref 37), dE P "__weakref__" 221 (.ref 40), dE P "__doc__" 222 Value.none] 3 }
noncomputable def ob_39 : Obj := { cls := Value.type "type", data := Data.cls { name := Str.ofString "GateError", bases := [Value.type "Exception"], mro := [Value.ref 39, Value.type "Exception", Value.type "BaseException", Value.type "object"], ns := 38, qualname := Str.ofString "GateError", subclasses := [Value.ref 52] }, slots := #[Option.some (.ref 15), Option.none, Option.some (.str "GateError" 189), Option.some (.str "GateError" 197), Option.some (.builtin "Exception.__new__"), Option.some (.bool Bool.true)] }
noncomputable def ob_40 : Obj := mk7 220 39
noncomputable def ob_43 : Obj := { cls := Value.type "tuple", data := Data.seq #[Value.ref 39] }
noncomputable def ob_50 : Obj := mk0
noncomputable def ob_51 (P : Params) : Obj := { cls := Value.type "dict", data := Data.dict #[dE P "__module__" 234 (.str "ringgate.basics" 187), dE P "__firstlineno__" 238 (.int 11 237), dE P "__static_attributes__" 239 (.ref 50), dE P "__doc__" 240 Value.none] 2 }
noncomputable def ob_52 : Obj := { cls := Value.type "type", data := Data.cls { name := Str.ofString "CodeError", bases := [Value.ref 39], mro := [Value.ref 52, Value.ref 39, Value.type "Exception", Value.type "BaseException", Value.type "object"], ns := 51, qualname := Str.ofString "CodeError" }, slots := #[Option.some (.ref 43), Option.none, Option.some (.str "CodeError" 227), Option.some (.str "CodeError" 235), Option.some (.builtin "Exception.__new__"), Option.some (.bool Bool.true)] }
noncomputable def ob_55 : Obj := mk8 64 243
noncomputable def ob_56 : Obj := mk0
noncomputable def ob_58 : Obj := mk1 "worth" 247 "size" 248 "low" 249
noncomputable def ob_59 : Obj := mk0
noncomputable def ob_61 : Obj := mk2 "signed" 244 "signed" 245 246 13 2 56 57 58 59 60 250 251
noncomputable def fd_62 : FuncData := mk3 "signed" "signed" d_signed.1 55 "ringgate.basics" 187 61
noncomputable def ob_62 : Obj := { cls := .type "function", data := .func fd_62 }
noncomputable def ob_63 : Obj := mk0
noncomputable def ob_65 : Obj := mk6 "worth" 256 "size" 257
noncomputable def ob_66 : Obj := mk0
noncomputable def ob_68 : Obj := mk2 "fits_signed" 253 "fits_signed" 254 255 16 2 63 64 65 66 67 258 259
noncomputable def fd_69 : FuncData := mk5 "fits_signed" "fits_signed" d_fits_signed.1 "ringgate.basics" 187 68
noncomputable def ob_69 : Obj := { cls := .type "function", data := .func fd_69 }
noncomputable def ob_70 : Obj := mk0
noncomputable def ob_73 : Obj := mk9 "little" 261 262 263 18 2 70 71 72 264 265
noncomputable def fd_74 : FuncData := mk5 "little" "little" d_little.1 "ringgate.basics" 187 73
noncomputable def ob_74 : Obj := { cls := .type "function", data := .func fd_74 }
noncomputable def ob_75 : Obj := mk0
noncomputable def ob_77 : Obj := mk1 "octets" 270 "worth" 271 "at" 272
noncomputable def ob_78 : Obj := mk0
noncomputable def ob_80 : Obj := mk2 "from_little" 267 "from_little" 268 269 20 1 75 76 77 78 79 273 274
noncomputable def fd_81 : FuncData := mk5 "from_little" "from_little" d_from_little.1 "ringgate.basics" 187 80
noncomputable def ob_81 : Obj := { cls := .type "function", data := .func fd_81 }
noncomputable def ob_89 : Obj := mk8 0 338
noncomputable def ob_90 : Obj := mk0
noncomputable def ob_92 : Obj := mk10 "self" 342 "code" 343 "dst" 344 "src" 345 "off" 346 "imm" 347 "more" 348
noncomputable def ob_93 : Obj := mk0
noncomputable def ob_95 : Obj := mk2 "__init__" 339 "Order.__init__" 340 341 52 7 90 91 92 93 94 349 350
noncomputable def fd_96 : FuncData := mk3 "__init__" "Order.__init__" d_Order_init.1 89 "ringgate.orders" 276 95
noncomputable def ob_96 : Obj := { cls := .type "function", data := .func fd_96 }
noncomputable def ob_97 : Obj := mk0
noncomputable def ob_99 : Obj := mk4 "self" 355
noncomputable def ob_100 : Obj := mk0
noncomputable def ob_102 : Obj := mk2 "told" 352 "Order.told" 353 354 60 1 97 98 99 100 101 356 357
noncomputable def fd_103 : FuncData := mk5 "told" "Order.told" d_Order_told.1 "ringgate.orders" 276 102
noncomputable def ob_103 : Obj := { cls := .type "function", data := .func fd_103 }
noncomputable def ob_104 : Obj := { cls := Value.type "tuple", data := Data.seq #[Value.str "code" 359, Value.str "dst" 360, Value.str "imm" 361, Value.str "more" 362, Value.str "off" 363, Value.str "src" 364] }
noncomputable def ob_105 (P : Params) : Obj := { cls := Value.type "dict", data := Data.dict #[dE P "__module__" 333 (.str "ringgate.orders" 276), dE P "__firstlineno__" 337 (.int 50 336), dE P "__init__" 351 (.ref 96), dE P "told" 358 (.ref 103), dE P "__static_attributes__" 365 (.ref 104), dE P "__dict__" 367 (.ref 107), dE P "__weakref__" 369 (.ref 108), dE P "__doc__" 370 Value.none] 4 }
noncomputable def ob_106 : Obj := { cls := Value.type "type", data := Data.cls { name := Str.ofString "Order", bases := [Value.type "object"], mro := [Value.ref 106, Value.type "object"], ns := 105, qualname := Str.ofString "Order" }, slots := #[Option.none, Option.none, Option.some (.str "Order" 326), Option.some (.str "Order" 334), Option.some (.builtin "object.__new__"), Option.some (.bool Bool.true)] }
noncomputable def ob_107 : Obj := { cls := Value.type "getset_descriptor", data := Data.fields #[Value.str "__dict__" 366, Value.ref 106, Value.builtin "function.__dict__", Value.builtin "function.__dict__#set"] }
noncomputable def ob_108 : Obj := mk7 368 106
noncomputable def ob_111 : Obj := mk0
noncomputable def ob_113 : Obj := mk6 "order" 376 "kind" 377
noncomputable def ob_114 : Obj := mk0
noncomputable def ob_116 : Obj := mk2 "is_alu" 373 "is_alu" 374 375 62 1 111 112 113 114 115 378 379
noncomputable def fd_117 : FuncData := mk5 "is_alu" "is_alu" d_is_alu.1 "ringgate.orders" 276 116
noncomputable def ob_117 : Obj := { cls := .type "function", data := .func fd_117 }
noncomputable def ob_118 : Obj := mk0
noncomputable def ob_120 : Obj := mk6 "order" 384 "kind" 385
noncomputable def ob_121 : Obj := mk0
noncomputable def ob_123 : Obj := mk2 "is_jumping" 381 "is_jumping" 382 383 65 1 118 119 120 121 122 386 387
noncomputable def fd_124 : FuncData := mk5 "is_jumping" "is_jumping" d_is_jumping.1 "ringgate.orders" 276 123
noncomputable def ob_124 : Obj := { cls := .type "function", data := .func fd_124 }
noncomputable def ob_125 : Obj := mk0
noncomputable def ob_127 : Obj := mk6 "order" 392 "at" 393
noncomputable def ob_128 : Obj := mk0
noncomputable def ob_130 : Obj := mk2 "operation" 389 "operation" 390 391 68 1 125 126 127 128 129 394 395
noncomputable def fd_131 : FuncData := mk5 "operation" "operation" d_operation.1 "ringgate.orders" 276 130
noncomputable def ob_131 : Obj := { cls := .type "function", data := .func fd_131 }
noncomputable def ob_132 : Obj := mk0
noncomputable def ob_134 : Obj := mk4 "order" 400
noncomputable def ob_135 : Obj := mk0
noncomputable def ob_137 : Obj := mk2 "is_register" 397 "is_register" 398 399 77 1 132 133 134 135 136 401 402
noncomputable def fd_138 : FuncData := mk5 "is_register" "is_register" d_is_register.1 "ringgate.orders" 276 137
noncomputable def ob_138 : Obj := { cls := .type "function", data := .func fd_138 }
noncomputable def ob_139 : Obj := mk0
noncomputable def ob_141 : Obj := mk6 "order" 407 "bits" 408
noncomputable def ob_142 : Obj := mk0
noncomputable def ob_144 : Obj := mk2 "width_of" 404 "width_of" 405 406 79 1 139 140 141 142 143 409 410
noncomputable def fd_145 : FuncData := mk5 "width_of" "width_of" d_width_of.1 "ringgate.orders" 276 144
noncomputable def ob_145 : Obj := { cls := .type "function", data := .func fd_145 }
noncomputable def ob_146 : Obj := mk0
noncomputable def ob_148 : Obj := mk6 "order" 415 "bits" 416
noncomputable def ob_149 : Obj := mk0
noncomputable def ob_151 : Obj := mk2 "mode_of" 412 "mode_of" 413 414 86 1 146 147 148 149 150 417 418
noncomputable def fd_152 : FuncData := mk5 "mode_of" "mode_of" d_mode_of.1 "ringgate.orders" 276 151
noncomputable def ob_152 : Obj := { cls := .type "function", data := .func fd_152 }
noncomputable def ob_153 : Obj := mk0
noncomputable def ob_155 : Obj := mk6 "order" 423 "kind" 424
noncomputable def ob_156 : Obj := mk0
noncomputable def ob_158 : Obj := mk2 "alu_size" 420 "alu_size" 421 422 99 1 153 154 155 156 157 425 426
noncomputable def fd_159 : FuncData := mk5 "alu_size" "alu_size" d_alu_size.1 "ringgate.orders" 276 158
noncomputable def ob_159 : Obj := { cls := .type "function", data := .func fd_159 }
noncomputable def ob_160 : Obj := mk0
noncomputable def ob_162 : Obj := mk4 "order" 431
noncomputable def ob_163 : Obj := mk0
noncomputable def ob_165 : Obj := mk2 "is_wide" 428 "is_wide" 429 430 102 1 160 161 162 163 164 432 433
noncomputable def fd_166 : FuncData := mk5 "is_wide" "is_wide" d_is_wide.1 "ringgate.orders" 276 165
noncomputable def ob_166 : Obj := { cls := .type "function", data := .func fd_166 }
noncomputable def ob_167 : Obj := mk0
noncomputable def ob_169 : Obj := mk4 "order" 438
noncomputable def ob_170 : Obj := mk0
noncomputable def ob_172 : Obj := mk2 "is_jump" 435 "is_jump" 436 437 104 1 167 168 169 170 171 439 440
noncomputable def fd_173 : FuncData := mk5 "is_jump" "is_jump" d_is_jump.1 "ringgate.orders" 276 172
noncomputable def ob_173 : Obj := { cls := .type "function", data := .func fd_173 }
noncomputable def ob_174 : Obj := mk0
noncomputable def ob_176 : Obj := mk4 "order" 445
noncomputable def ob_177 : Obj := mk0
noncomputable def ob_179 : Obj := mk2 "is_call" 442 "is_call" 443 444 106 1 174 175 176 177 178 446 447
noncomputable def fd_180 : FuncData := mk5 "is_call" "is_call" d_is_call.1 "ringgate.orders" 276 179
noncomputable def ob_180 : Obj := { cls := .type "function", data := .func fd_180 }
noncomputable def ob_181 : Obj := mk0
noncomputable def ob_183 : Obj := mk4 "order" 452
noncomputable def ob_184 : Obj := mk0
noncomputable def ob_186 : Obj := mk2 "is_exit" 449 "is_exit" 450 451 108 1 181 182 183 184 185 453 454
noncomputable def fd_187 : FuncData := mk5 "is_exit" "is_exit" d_is_exit.1 "ringgate.orders" 276 186
noncomputable def ob_187 : Obj := { cls := .type "function", data := .func fd_187 }
noncomputable def ob_188 : Obj := mk0
noncomputable def ob_190 : Obj := mk4 "order" 459
noncomputable def ob_191 : Obj := mk0
noncomputable def ob_193 : Obj := mk2 "is_branch" 456 "is_branch" 457 458 110 1 188 189 190 191 192 460 461
noncomputable def fd_194 : FuncData := mk5 "is_branch" "is_branch" d_is_branch.1 "ringgate.orders" 276 193
noncomputable def ob_194 : Obj := { cls := .type "function", data := .func fd_194 }
noncomputable def ob_195 : Obj := mk0
noncomputable def ob_197 : Obj := mk1 "order" 466 "plain" 467 "name" 468
noncomputable def ob_198 : Obj := mk0
noncomputable def ob_200 : Obj := mk2 "atomic_name" 463 "atomic_name" 464 465 112 1 195 196 197 198 199 469 470
noncomputable def fd_201 : FuncData := mk5 "atomic_name" "atomic_name" d_atomic_name.1 "ringgate.orders" 276 200
noncomputable def ob_201 : Obj := { cls := .type "function", data := .func fd_201 }
noncomputable def ob_202 : Obj := mk0
noncomputable def ob_204 : Obj := mk6 "is_right" 481 "what" 482
noncomputable def ob_205 : Obj := mk0
noncomputable def ob_207 : Obj := mk2 "need" 478 "need" 479 480 133 2 202 203 204 205 206 483 484
noncomputable def fd_208 : FuncData := mk5 "need" "need" d_need.1 "ringgate.codec" 472 207
noncomputable def ob_208 : Obj := { cls := .type "function", data := .func fd_208 }
noncomputable def ob_209 : Obj := mk0
noncomputable def ob_211 : Obj := mk4 "order" 489
noncomputable def ob_212 : Obj := mk0
noncomputable def ob_214 : Obj := mk2 "check_fields" 486 "check_fields" 487 488 136 1 209 210 211 212 213 490 491
noncomputable def fd_215 : FuncData := mk5 "check_fields" "check_fields" d_check_fields.1 "ringgate.codec" 472 214
noncomputable def ob_215 : Obj := { cls := .type "function", data := .func fd_215 }
noncomputable def ob_216 : Obj := mk0
noncomputable def ob_218 : Obj := mk4 "order" 496
noncomputable def ob_219 : Obj := mk0
noncomputable def ob_221 : Obj := mk2 "check_end" 493 "check_end" 494 495 142 1 216 217 218 219 220 497 498
noncomputable def fd_222 : FuncData := mk5 "check_end" "check_end" d_check_end.1 "ringgate.codec" 472 221
noncomputable def ob_222 : Obj := { cls := .type "function", data := .func fd_222 }
noncomputable def ob_223 : Obj := mk0
noncomputable def ob_225 : Obj := mk6 "order" 503 "small" 504
noncomputable def ob_226 : Obj := mk0
noncomputable def ob_228 : Obj := mk2 "check_extension" 500 "check_extension" 501 502 146 1 223 224 225 226 227 505 506
noncomputable def fd_229 : FuncData := mk5 "check_extension" "check_extension" d_check_extension.1 "ringgate.codec" 472 228
noncomputable def ob_229 : Obj := { cls := .type "function", data := .func fd_229 }
noncomputable def ob_230 : Obj := mk0
noncomputable def ob_232 : Obj := mk6 "order" 511 "name" 512
noncomputable def ob_233 : Obj := mk0
noncomputable def ob_235 : Obj := mk2 "check_number" 508 "check_number" 509 510 149 2 230 231 232 233 234 513 514
noncomputable def fd_236 : FuncData := mk5 "check_number" "check_number" d_check_number.1 "ringgate.codec" 472 235
noncomputable def ob_236 : Obj := { cls := .type "function", data := .func fd_236 }
noncomputable def ob_237 : Obj := mk0
noncomputable def ob_239 : Obj := mk6 "order" 519 "name" 520
noncomputable def ob_240 : Obj := mk0
noncomputable def ob_242 : Obj := mk2 "check_alu" 516 "check_alu" 517 518 154 1 237 238 239 240 241 521 522
noncomputable def fd_243 : FuncData := mk5 "check_alu" "check_alu" d_check_alu.1 "ringgate.codec" 472 242
noncomputable def ob_243 : Obj := { cls := .type "function", data := .func fd_243 }
noncomputable def ob_244 : Obj := mk0
noncomputable def ob_246 : Obj := mk4 "order" 527
noncomputable def ob_247 : Obj := mk0
noncomputable def ob_249 : Obj := mk2 "check_jump" 524 "check_jump" 525 526 175 1 244 245 246 247 248 528 529
noncomputable def fd_250 : FuncData := mk5 "check_jump" "check_jump" d_check_jump.1 "ringgate.codec" 472 249
noncomputable def ob_250 : Obj := { cls := .type "function", data := .func fd_250 }
noncomputable def ob_251 : Obj := mk0
noncomputable def ob_253 : Obj := mk6 "order" 534 "name" 535
noncomputable def ob_254 : Obj := mk0
noncomputable def ob_256 : Obj := mk2 "check_jumping" 531 "check_jumping" 532 533 182 1 251 252 253 254 255 536 537
noncomputable def fd_257 : FuncData := mk5 "check_jumping" "check_jumping" d_check_jumping.1 "ringgate.codec" 472 256
noncomputable def ob_257 : Obj := { cls := .type "function", data := .func fd_257 }
noncomputable def ob_258 : Obj := mk0
noncomputable def ob_260 : Obj := mk6 "order" 542 "mode" 543
noncomputable def ob_261 : Obj := mk0
noncomputable def ob_263 : Obj := mk2 "check_load" 539 "check_load" 540 541 198 1 258 259 260 261 262 544 545
noncomputable def fd_264 : FuncData := mk5 "check_load" "check_load" d_check_load.1 "ringgate.codec" 472 263
noncomputable def ob_264 : Obj := { cls := .type "function", data := .func fd_264 }
noncomputable def ob_265 : Obj := mk0
noncomputable def ob_267 : Obj := mk6 "order" 550 "mode" 551
noncomputable def ob_268 : Obj := mk0
noncomputable def ob_270 : Obj := mk2 "check_stx" 547 "check_stx" 548 549 203 1 265 266 267 268 269 552 553
noncomputable def fd_271 : FuncData := mk5 "check_stx" "check_stx" d_check_stx.1 "ringgate.codec" 472 270
noncomputable def ob_271 : Obj := { cls := .type "function", data := .func fd_271 }
noncomputable def ob_272 : Obj := mk0
noncomputable def ob_274 : Obj := mk6 "order" 558 "kind" 559
noncomputable def ob_275 : Obj := mk0
noncomputable def ob_277 : Obj := mk2 "check_order" 555 "check_order" 556 557 211 1 272 273 274 275 276 560 561
noncomputable def fd_278 : FuncData := mk5 "check_order" "check_order" d_check_order.1 "ringgate.codec" 472 277
noncomputable def ob_278 : Obj := { cls := .type "function", data := .func fd_278 }
noncomputable def ob_279 : Obj := mk0
noncomputable def ob_281 : Obj := mk6 "order" 566 "first" 567
noncomputable def ob_282 : Obj := mk0
noncomputable def ob_284 : Obj := mk2 "pack" 563 "pack" 564 565 231 1 279 280 281 282 283 568 569
noncomputable def fd_285 : FuncData := mk5 "pack" "pack" d_pack.1 "ringgate.codec" 472 284
noncomputable def ob_285 : Obj := { cls := .type "function", data := .func fd_285 }
noncomputable def ob_286 : Obj := mk0
noncomputable def ob_288 : Obj := mk1 "octets" 574 "at" 575 "spot" 576
noncomputable def ob_289 : Obj := mk0
noncomputable def ob_291 : Obj := mk2 "second_half" 571 "second_half" 572 573 237 2 286 287 288 289 290 577 578
noncomputable def fd_292 : FuncData := mk5 "second_half" "second_half" d_second_half.1 "ringgate.codec" 472 291
noncomputable def ob_292 : Obj := { cls := .type "function", data := .func fd_292 }
noncomputable def ob_293 : Obj := mk8 0 580
noncomputable def ob_294 : Obj := mk0
noncomputable def ob_296 : Obj := { cls := Value.type "tuple", data := Data.seq #[Value.str "octets" 584, Value.str "at" 585, Value.str "code" 586, Value.str "both" 587, Value.str "off" 588, Value.str "imm" 589, Value.str "order" 590, Value.str "end" 591] }
noncomputable def ob_297 : Obj := mk0
noncomputable def ob_299 : Obj := mk2 "unpack" 581 "unpack" 582 583 242 2 294 295 296 297 298 592 593
noncomputable def fd_300 : FuncData := mk3 "unpack" "unpack" d_unpack.1 293 "ringgate.codec" 472 299
noncomputable def ob_300 : Obj := { cls := .type "function", data := .func fd_300 }
noncomputable def ob_301 : Obj := mk0
noncomputable def ob_303 : Obj := mk1 "orders" 598 "found" 599 "order" 600
noncomputable def ob_304 : Obj := mk0
noncomputable def ob_306 : Obj := mk2 "pack_all" 595 "pack_all" 596 597 252 1 301 302 303 304 305 601 602
noncomputable def fd_307 : FuncData := mk5 "pack_all" "pack_all" d_pack_all.1 "ringgate.codec" 472 306
noncomputable def ob_307 : Obj := { cls := .type "function", data := .func fd_307 }
noncomputable def ob_308 : Obj := mk0
noncomputable def ob_310 : Obj := { cls := Value.type "tuple", data := Data.seq #[Value.str "octets" 607, Value.str "found" 608, Value.str "at" 609, Value.str "order" 610, Value.str "error" 611] }
noncomputable def ob_311 : Obj := mk0
noncomputable def ob_313 : Obj := mk2 "unpack_all" 604 "unpack_all" 605 606 257 1 308 309 310 311 312 612 613
noncomputable def fd_314 : FuncData := mk5 "unpack_all" "unpack_all" d_unpack_all.1 "ringgate.codec" 472 313
noncomputable def ob_314 : Obj := { cls := .type "function", data := .func fd_314 }
noncomputable def ob_315 : Obj := mk0
noncomputable def ob_317 : Obj := mk4 "found" 620
noncomputable def ob_318 : Obj := mk0
noncomputable def ob_320 : Obj := mk2 "_law_codes" 617 "_law_codes" 618 619 267 0 315 316 317 318 319 621 622
noncomputable def fd_321 : FuncData := mk5 "_law_codes" "_law_codes" d_law_codes.1 "law_nu0355_01" 615 320
noncomputable def ob_321 : Obj := { cls := .type "function", data := .func fd_321 }
noncomputable def ob_322 : Obj := mk0
noncomputable def ob_324 : Obj := mk6 "low" 627 "size" 628
noncomputable def ob_325 : Obj := mk0
noncomputable def ob_327 : Obj := mk2 "_law_number" 624 "_law_number" 625 626 272 2 322 323 324 325 326 629 630
noncomputable def fd_328 : FuncData := mk5 "_law_number" "_law_number" d_law_number.1 "law_nu0355_01" 615 327
noncomputable def ob_328 : Obj := { cls := .type "function", data := .func fd_328 }
noncomputable def ob_329 : Obj := mk0
noncomputable def ob_332 : Obj := mk9 "_law_row" 632 633 634 274 1 329 330 331 635 636
noncomputable def fd_333 : FuncData := mk5 "_law_row" "_law_row" d_law_row.1 "law_nu0355_01" 615 332
noncomputable def ob_333 : Obj := { cls := .type "function", data := .func fd_333 }
noncomputable def ob_334 : Obj := mk0
noncomputable def ob_336 : Obj := mk10 "kind" 641 "back" 642 "away" 643 "whole" 644 "deed" 645 "by_reg" 646 "is_64" 647
noncomputable def ob_337 : Obj := mk0
noncomputable def ob_339 : Obj := mk2 "_law_deed_is" 638 "_law_deed_is" 639 640 295 4 334 335 336 337 338 648 649
noncomputable def fd_340 : FuncData := mk5 "_law_deed_is" "_law_deed_is" d_law_deed_is.1 "law_nu0355_01" 615 339
noncomputable def ob_340 : Obj := { cls := .type "function", data := .func fd_340 }
noncomputable def ob_341 : Obj := mk0
noncomputable def ob_343 : Obj := mk10 "kind" 654 "goal" 655 "back" 656 "away" 657 "whole" 658 "deed" 659 "by_reg" 660
noncomputable def ob_344 : Obj := mk0
noncomputable def ob_346 : Obj := mk2 "_law_jump_is" 651 "_law_jump_is" 652 653 314 5 341 342 343 344 345 661 662
noncomputable def fd_347 : FuncData := mk5 "_law_jump_is" "_law_jump_is" d_law_jump_is.1 "law_nu0355_01" 615 346
noncomputable def ob_347 : Obj := { cls := .type "function", data := .func fd_347 }
noncomputable def ob_348 : Obj := mk0
noncomputable def ob_350 : Obj := mk11 "kind" 667 "goal" 668 "back" 669 "away" 670 "whole" 671 "mode" 672 "wide_bits" 673 "group" 674 "deeds" 675
noncomputable def ob_351 : Obj := mk0
noncomputable def ob_353 : Obj := mk2 "_law_is" 664 "_law_is" 665 666 325 5 348 349 350 351 352 676 677
noncomputable def fd_354 : FuncData := mk5 "_law_is" "_law_is" d_law_is.1 "law_nu0355_01" 615 353
noncomputable def ob_354 : Obj := { cls := .type "function", data := .func fd_354 }
noncomputable def ob_355 : Obj := mk0
noncomputable def ob_358 : Obj := mk9 "_law_due" 679 680 681 343 1 355 356 357 682 683
noncomputable def fd_359 : FuncData := mk5 "_law_due" "_law_due" d_law_due.1 "law_nu0355_01" 615 358
noncomputable def ob_359 : Obj := { cls := .type "function", data := .func fd_359 }
noncomputable def ob_360 : Obj := mk0
noncomputable def ob_362 : Obj := mk6 "ask" 688 "error" 689
noncomputable def ob_363 : Obj := mk0
noncomputable def ob_365 : Obj := mk2 "_law_heard" 685 "_law_heard" 686 687 355 1 360 361 362 363 364 690 691
noncomputable def fd_366 : FuncData := mk5 "_law_heard" "_law_heard" d_law_heard.1 "law_nu0355_01" 615 365
noncomputable def ob_366 : Obj := { cls := .type "function", data := .func fd_366 }
noncomputable def ob_367 : Obj := mk0
noncomputable def ob_369 : Obj := mk11 "octs" 696 "due" 697 "ahead" 698 "heard" 699 "behind" 700 "cut" 701 "found" 702 "end" 703 "built" 704
noncomputable def ob_370 : Obj := mk1 "octs" 705 "ahead" 706 "row" 707
noncomputable def ob_372 : Obj := mk2 "_law_row_right" 693 "_law_row_right" 694 695 360 3 367 368 369 370 371 708 709
noncomputable def fd_373 : FuncData := mk5 "_law_row_right" "_law_row_right" d_law_row_right.1 "law_nu0355_01" 615 372
noncomputable def ob_373 : Obj := { cls := .type "function", data := .func fd_373 }
noncomputable def ob_374 : Obj := mk0
noncomputable def ob_377 : Obj := mk9 "_law_made_right" 711 712 713 372 2 374 375 376 714 715
noncomputable def fd_378 : FuncData := mk5 "_law_made_right" "_law_made_right" d_law_made_right.1 "law_nu0355_01" 615 377
noncomputable def ob_378 : Obj := { cls := .type "function", data := .func fd_378 }
noncomputable def ob_379 : Obj := mk0
noncomputable def ob_382 : Obj := mk9 "law" 717 718 719 382 1 379 380 381 720 721
noncomputable def fd_383 : FuncData := mk5 "law" "law" d_law.1 "law_nu0355_01" 615 382
noncomputable def ob_383 : Obj := { cls := .type "function", data := .func fd_383 }
noncomputable def K (P : Params) : Frag := [(2, ob_2 P), (3, ob_3 P), (15, ob_15), (22, ob_22), (23, ob_23), (25, ob_25), (26, ob_26), (28, ob_28), (29, ob_29), (30, ob_30), (32, ob_32), (33, ob_33), (35, ob_35), (36, ob_36), (37, ob_37), (38, ob_38 P), (39, ob_39), (40, ob_40), (43, ob_43), (50, ob_50), (51, ob_51 P), (52, ob_52), (55, ob_55), (56, ob_56), (58, ob_58), (59, ob_59), (61, ob_61), (62, ob_62), (63, ob_63), (65, ob_65), (66, ob_66), (68, ob_68), (69, ob_69), (70, ob_70), (73, ob_73), (74, ob_74), (75, ob_75), (77, ob_77), (78, ob_78), (80, ob_80), (81, ob_81), (89, ob_89), (90, ob_90), (92, ob_92), (93, ob_93), (95, ob_95), (96, ob_96), (97, ob_97), (99, ob_99), (100, ob_100), (102, ob_102), (103, ob_103), (104, ob_104), (105, ob_105 P), (106, ob_106), (107, ob_107), (108, ob_108), (111, ob_111), (113, ob_113), (114, ob_114), (116, ob_116), (117, ob_117), (118, ob_118), (120, ob_120), (121, ob_121), (123, ob_123), (124, ob_124), (125, ob_125), (127, ob_127), (128, ob_128), (130, ob_130), (131, ob_131), (132, ob_132), (134, ob_134), (135, ob_135), (137, ob_137), (138, ob_138), (139, ob_139), (141, ob_141), (142, ob_142), (144, ob_144), (145, ob_145), (146, ob_146), (148, ob_148), (149, ob_149), (151, ob_151), (152, ob_152), (153, ob_153), (155, ob_155), (156, ob_156), (158, ob_158), (159, ob_159), (160, ob_160), (162, ob_162), (163, ob_163), (165, ob_165), (166, ob_166), (167, ob_167), (169, ob_169), (170, ob_170), (172, ob_172), (173, ob_173), (174, ob_174), (176, ob_176), (177, ob_177), (179, ob_179), (180, ob_180), (181, ob_181), (183, ob_183), (184, ob_184), (186, ob_186), (187, ob_187), (188, ob_188), (190, ob_190), (191, ob_191), (193, ob_193), (194, ob_194), (195, ob_195), (197, ob_197), (198, ob_198), (200, ob_200), (201, ob_201), (202, ob_202), (204, ob_204), (205, ob_205), (207, ob_207), (208, ob_208), (209, ob_209), (211, ob_211), (212, ob_212), (214, ob_214), (215, ob_215), (216, ob_216), (218, ob_218), (219, ob_219), (221, ob_221), (222, ob_222), (223, ob_223), (225, ob_225), (226, ob_226), (228, ob_228), (229, ob_229), (230, ob_230), (232, ob_232), (233, ob_233), (235, ob_235), (236, ob_236), (237, ob_237), (239, ob_239), (240, ob_240), (242, ob_242), (243, ob_243), (244, ob_244), (246, ob_246), (247, ob_247), (249, ob_249), (250, ob_250), (251, ob_251), (253, ob_253), (254, ob_254), (256, ob_256), (257, ob_257), (258, ob_258), (260, ob_260), (261, ob_261), (263, ob_263), (264, ob_264), (265, ob_265), (267, ob_267), (268, ob_268), (270, ob_270), (271, ob_271), (272, ob_272), (274, ob_274), (275, ob_275), (277, ob_277), (278, ob_278), (279, ob_279), (281, ob_281), (282, ob_282), (284, ob_284), (285, ob_285), (286, ob_286), (288, ob_288), (289, ob_289), (291, ob_291), (292, ob_292), (293, ob_293), (294, ob_294), (296, ob_296), (297, ob_297), (299, ob_299), (300, ob_300), (301, ob_301), (303, ob_303), (304, ob_304), (306, ob_306), (307, ob_307), (308, ob_308), (310, ob_310), (311, ob_311), (313, ob_313), (314, ob_314), (315, ob_315), (317, ob_317), (318, ob_318), (320, ob_320), (321, ob_321), (322, ob_322), (324, ob_324), (325, ob_325), (327, ob_327), (328, ob_328), (329, ob_329), (332, ob_332), (333, ob_333), (334, ob_334), (336, ob_336), (337, ob_337), (339, ob_339), (340, ob_340), (341, ob_341), (343, ob_343), (344, ob_344), (346, ob_346), (347, ob_347), (348, ob_348), (350, ob_350), (351, ob_351), (353, ob_353), (354, ob_354), (355, ob_355), (358, ob_358), (359, ob_359), (360, ob_360), (362, ob_362), (363, ob_363), (365, ob_365), (366, ob_366), (367, ob_367), (369, ob_369), (370, ob_370), (372, ob_372), (373, ob_373), (374, ob_374), (377, ob_377), (378, ob_378), (379, ob_379), (382, ob_382), (383, ob_383)]
noncomputable def as : List Addr := [2, 3, 15, 22, 23, 25, 26, 28, 29, 30, 32, 33, 35, 36, 37, 38, 39, 40, 43, 50, 51, 52, 55, 56, 58, 59, 61, 62, 63, 65, 66, 68, 69, 70, 73, 74, 75, 77, 78, 80, 81, 89, 90, 92, 93, 95, 96, 97, 99, 100, 102, 103, 104, 105, 106, 107, 108, 111, 113, 114, 116, 117, 118, 120, 121, 123, 124, 125, 127, 128, 130, 131, 132, 134, 135, 137, 138, 139, 141, 142, 144, 145, 146, 148, 149, 151, 152, 153, 155, 156, 158, 159, 160, 162, 163, 165, 166, 167, 169, 170, 172, 173, 174, 176, 177, 179, 180, 181, 183, 184, 186, 187, 188, 190, 191, 193, 194, 195, 197, 198, 200, 201, 202, 204, 205, 207, 208, 209, 211, 212, 214, 215, 216, 218, 219, 221, 222, 223, 225, 226, 228, 229, 230, 232, 233, 235, 236, 237, 239, 240, 242, 243, 244, 246, 247, 249, 250, 251, 253, 254, 256, 257, 258, 260, 261, 263, 264, 265, 267, 268, 270, 271, 272, 274, 275, 277, 278, 279, 281, 282, 284, 285, 286, 288, 289, 291, 292, 293, 294, 296, 297, 299, 300, 301, 303, 304, 306, 307, 308, 310, 311, 313, 314, 315, 317, 318, 320, 321, 322, 324, 325, 327, 328, 329, 332, 333, 334, 336, 337, 339, 340, 341, 343, 344, 346, 347, 348, 350, 351, 353, 354, 355, 358, 359, 360, 362, 363, 365, 366, 367, 369, 370, 372, 373, 374, 377, 378, 379, 382, 383]
section
noncomputable def lz : List Str := (PySem.Challenge.pw_nu0355_01.main.scope.names.map (·.1)).filter (fun x => !(x == Str.ofString "law"))
noncomputable abbrev qq : Program := PySem.W.view PySem.Challenge.pw_nu0355_01 [76]
theorem asK (P : Params) : as = (K P).map (·.1) := by kernel_rfl
noncomputable abbrev Xt : Shared -> Bool := fun s => xlAt qq [] s && recOk (RowW.records PySem.Challenge.rw_nu0355_01.row.toRowW) s
noncomputable def topT (p : Program) (w : World) (m : Nat) (ann : Option Value) (n : Nat) : SharedT -> Thread -> Option SharedT :=
  @Nat.rec (fun _ => SharedT -> Thread -> Option SharedT) (fun _ _ => none) (fun _ ih s t => cond (through t) (some s) (cond (stepOk m ann t) ((stepT (denote treeTable) p w s t).bind fun x => ih x.1 x.2) none)) n
theorem topT_of {p : Program} {w : World} {m n : Nat} {ann : Option Value} : ∀ {s s' : SharedT} {t : Thread}, topT p w m ann n s t = some s' -> topRun treeTable p w m ann n s.abs t = some s'.abs := by
  induction n with
  | zero => exact fun h => nomatch (show none = some _ from h)
  | succ n ih =>
    intro s s' t h
    unfold topRun
    have h : cond (through t) _ (cond (stepOk m ann t) _ _) = _ := h
    cases he : through t with
    | true => rw [he] at h; rw [<- Option.some.inj h]
    | false => cases hk : stepOk m ann t with
      | false => rw [he, hk] at h; exact nomatch (show none = some _ from h)
      | true =>
        rw [he, hk] at h
        obtain ⟨r, hs, h⟩ := Option.bind_eq_some_iff.mp h
        rw [stepT_spec (s' := r.1) (t' := r.2) hs]
        exact ih h
noncomputable def toT (l : List Obj) : BT -> Nat -> Option BT :=
  @List.rec Obj (fun _ => BT -> Nat -> Option BT) (fun t _ => some t) (fun o _ ih t n => cond ((t.ins n o).get n).isSome (ih (t.ins n o) (n + 1)) none) l
theorem toT_abs {life : Life} {l : List Obj} : ∀ {t t' : BT} {n : Nat} {a : Array Obj}, absHeap t n life = ⟨a, life⟩ -> toT l t n = some t' -> absHeap t' (n + l.length) life = ⟨a ++ l, life⟩ := by
  induction l with
  | nil => intro t t' n a e h; rw [Array.appendList_nil, <- Option.some.inj h]; exact e
  | cons o l ih =>
    intro t t' n a e h
    have h : cond ((t.ins n o).get n).isSome _ _ = _ := h
    cases hi : ((t.ins n o).get n).isSome with
    | false => rw [hi] at h; exact nomatch (show none = some _ from h)
    | true =>
      rw [hi] at h
      have q := ih ((absHeap_ins hi).trans (congrArg (Heap.push · o) e)) h
      rw [Array.appendList_cons, List.length_cons, <- Nat.add_assoc, Nat.add_right_comm]
      exact q
noncomputable def toS (s : Shared) (t : BT) : SharedT := ⟨t, s.heap.objs.size, s.heap.life, s.gens, s.drawn, s.toks, s.os⟩
theorem toS_abs {s : Shared} {t : BT} (h : toT s.heap.objs.toList .nil 0 = some t) : (toS s t).abs = s := by
  have e := toT_abs (life := s.heap.life) (a := #[]) rfl h
  rw [Nat.zero_add, Array.length_toList, show #[] ++ s.heap.objs.toList = s.heap.objs from Array.ext' (by simp)] at e
  exact congrArg (fun x => (⟨x, s.gens, s.drawn, s.toks, s.os⟩ : Shared)) e
noncomputable def fit (p : Program) (s₀ s₁ : Shared) : Bool := staticsOk (importedModules p.main.body) s₀.heap s₁.heap && namesBound p s₁.heap && gensDone s₁ && laidKept s₀.heap s₁.heap
noncomputable def runT (p : Program) (w : World) (N : Nat) (s : Shared) : Option SharedT := (toT s.heap.objs.toList .nil 0).bind fun t =>
  cond (s.heap.isNs mainGlobals && s.gens.size == 0) ((topT p w s.heap.objs.size (s.heap.nsMap mainGlobals "__annotations__") N (toS s t) (topStub p)).bind fun r => cond (fit p s r.abs) (some r) none) none
theorem runT_of {p : Program} {w : World} {N : Nat} {s₀ : Shared} {s : SharedT} (h : runT p w N s₀ = some s) : topFrom treeTable p w N s₀ = some s.abs := by
  obtain ⟨t, ht, h⟩ := Option.bind_eq_some_iff.mp h
  unfold topFrom
  cases hg : (s₀.heap.isNs mainGlobals && s₀.gens.size == 0) with
  | false => rw [hg] at h; exact nomatch (show none = some _ from h)
  | true =>
    rw [hg] at h
    obtain ⟨r, h1, h2⟩ := Option.bind_eq_some_iff.mp h
    have q := topT_of h1
    rw [toS_abs ht] at q
    refine (congrArg (Option.bind · _) q).trans ?_
    cases hs : fit p s₀ r.abs with
    | false => rw [hs] at h2; exact nomatch (show none = some _ from h2)
    | true =>
      rw [hs] at h2
      rw [<- Option.some.inj h2]
      exact (congrArg (fun b => match b with | true => some r.abs | false => none) hs : _)
noncomputable def getT (s : SharedT) (a : Addr) : Option Obj := cond (Nat.blt a s.n) (alive ((s.tree.get a).getD default)) none
theorem getT_eq (s : SharedT) : s.abs.heap.get? = getT s := by
  funext a
  unfold getT
  cases h : Nat.blt a s.n with
  | false => exact abs_get_none fun q => by rw [show Nat.blt a s.n = true from Nat.ble_eq_true_of_le q] at h; exact nomatch h
  | true =>
    show (absHeap s.tree s.n s.life).get? a = alive _
    unfold Heap.get?
    rw [absHeap_at, if_pos (show a < s.n from Nat.le_of_ble_eq_true h)]
    generalize (s.tree.get a).getD default = o
    obtain ⟨c, d, dt, sl⟩ := o
    cases dt <;> rfl
noncomputable def LR (pw q : Program) (Xt : Shared -> Bool) (lz : List Str) (as ts : List Addr) (V : World -> List (Option Obj) × List (Option Obj)) := (fun (w : World) (os : OsState) => (runT pw w 4816 ⟨boot_heap w.params, Array.mk [], boot_drawn, boot_toks, os⟩).map (fun s => (openSeen q lz (importedModules pw.main.body) Xt true s.abs, (as.map (getT s), ts.map (getT s)))), fun (w : World) => some (openGood q lz, V w))
theorem fenced {x : Option Shared} {a : Heap} {b : Array GenState} {c : Drawn} {d : Nat} (h : x.map (fun s => (s.heap, s.gens, s.drawn, s.toks)) = some (a, b, c, d)) : ∃ os, x = some ⟨a, b, c, d, os⟩ := by
  obtain ⟨s, h0, e⟩ := Option.map_eq_some_iff.mp h
  exact ⟨s.os, h0.trans (congrArg (fun y => some (⟨y.1, y.2.1, y.2.2.1, y.2.2.2, s.os⟩ : Shared)) e)⟩
theorem left_of {pw q : Program} {Xt : Shared -> Bool} {lz : List Str} {as ts : List Addr} {V : World -> List (Option Obj) × List (Option Obj)} (e : opening pw = plainProg pw.main.scope.names) (f : ∀ s, fenceModules? pw s = some s)
    {w : World} (h : ∀ os, (LR pw q Xt lz as ts V).1 w os = (LR pw q Xt lz as ts V).2 w) :
    (openEnds treeTable pw w 4816).map (fun s => (openSeen q lz (importedModules pw.main.body) Xt true s, (as.map s.heap.get?, ts.map s.heap.get?))) = some (openGood q lz, V w) := by
  obtain ⟨os, h0⟩ := fenced (boot_open (N := 4816) e (by decide) f w)
  obtain ⟨s, hs, e⟩ := Option.map_eq_some_iff.mp (show Option.map _ _ = _ from h os)
  have k : openEnds treeTable pw w 4816 = some s.abs := by unfold openEnds; rw [h0, Option.bind_some, runT_of hs]
  rw [<- getT_eq s] at e
  exact (congrArg (Option.map _) k).trans (congrArg some e)
theorem LR_self : LR = LR := rfl
set_option maxHeartbeats 0
name_quick lrq for LR by LR_self
noncomputable abbrev hk : Hook := kmHook K as asK [375, 368, 380]
theorem LR_eq (w : World) (os : OsState) : (PySem.W.Fast.lrq PySem.Challenge.pw_nu0355_01 qq Xt lz as [375, 368, 380] hk.val).1 w os = (PySem.W.Fast.lrq PySem.Challenge.pw_nu0355_01 qq Xt lz as [375, 368, 380] hk.val).2 w := by kernel_rfl
theorem left_ok : LeftO PySem.Challenge.pw_nu0355_01 qq lz Xt hk.obs hk.val 4816 := by
  intro w
  have h : ∀ os, (LR PySem.Challenge.pw_nu0355_01 qq Xt lz as [375, 368, 380] hk.val).1 w os = (LR PySem.Challenge.pw_nu0355_01 qq Xt lz as [375, 368, 380] hk.val).2 w := by
    rw [PySem.W.Fast.lrq_eq]
    exact LR_eq w
  have h2 := left_of (by kernel_rfl) (fun _ => by kernel_rfl) h
  exact h2
end
section
noncomputable def LS (l : OpenLaw) : Bool := l.wellSaid
theorem LS_self : LS = LS := rfl
set_option maxHeartbeats 0
name_quick lsq for LS by LS_self
theorem ls_ok : PySem.W.Fast.lsq PySem.Challenge.rw_nu0355_01 = true := by
  iterate 37 refine look_both ?_ (by as_aux_lemma => kernel_rfl)
  as_aux_lemma => kernel_rfl
theorem ws_ok : PySem.Challenge.rw_nu0355_01.wellSaid = true := by
  have h : LS PySem.Challenge.rw_nu0355_01 = true := by
    rw [PySem.W.Fast.lsq_eq]
    exact ls_ok
  exact h
end
noncomputable def len1 (v : PV) : Out PV := match v with
  | .list xs => if xs.length <= 100000 then .ok (.int xs.length) else .stuck
  | .bytes b => if b.length <= 100000 then .ok (.int b.length) else .stuck
  | _ => .stuck
noncomputable def lenP (ps : List PV) : Out PV := only ps len1
noncomputable def bytesP (ps : List PV) : Out PV := only ps fun v => onList v fun xs => (outOpt (allInts xs)).bind fun ns => if (ns.all fun n => decide (0 <= n /\ n < 256)) = true /\ ns.length <= 100000 then .ok (.bytes (ns.map fun n => n.toNat.toUInt8)) else .stuck
noncomputable def sumP (ps : List PV) : Out PV := only ps fun v => onList v fun xs => (outOpt (allInts xs)).bind fun ns => .ok (.int ns.sum)
section
variable {W : Wd} {n : Nat} {A : Around} {X : Addr -> Prop} {s s' : Shared} {E : Value -> Shared -> Prop}
theorem len_ok : FnOK W n (.builtin "len") lenP where
  kp := .inl nofun
  run := fun A X s vs ps S r hne => by
    obtain ⟨p, rfl⟩ := only_is hne
    obtain ⟨v, rfl, rp⟩ := r.is1
    induction p using PV.casesOn with
    | list xs =>
      refine if_ne (P := fun z => Ev W A X s (call (.builtin "len") [v]) z) (fun hc => ?_) hne
      obtain ⟨a, o, us, n, rfl, e1, c1, d1, x1, z1, r1⟩ := rp.isList
      have hl := r1.length
      refine call_len_list (items := _) ⟨_, e1, c1, _, d1⟩ (by simp only [List.size_toArray]; omega) ?_
      simp only [List.size_toArray]
      rw [hl]
      exact ⟨_, rfl, .int _ _, Step.toks S.base⟩
    | bytes b =>
      refine if_ne (P := fun z => Ev W A X s (call (.builtin "len") [v]) z) (fun hc => ?_) hne
      obtain ⟨t, rfl⟩ := rp.isBytes
      refine len_bytes (by simp only [List.size_toArray]; omega) ?_
      simp only [List.size_toArray]
      exact ⟨_, rfl, .int _ _, Step.toks S.base⟩
    | _ => exact (hne rfl).elim
theorem bytes_ok : FnOK W n (.type "bytes") bytesP where
  kp := .inl nofun
  run := fun A X s vs ps S r hne => by
    obtain ⟨p, rfl⟩ := only_is hne
    obtain ⟨xs, rfl⟩ := onList_is (v := p) hne
    have hne : (outOpt (allInts xs)).bind (fun ns => if (ns.all fun n => decide (0 <= n /\ n < 256)) = true /\ ns.length <= 100000 then Out.ok (PV.bytes (ns.map fun n => n.toNat.toUInt8)) else .stuck) ≠ .stuck := hne
    obtain ⟨ns, hn⟩ := outOpt_ne (bind_ne hne)
    have e0 : bytesP [.list xs] = if (ns.all fun n => decide (0 <= n /\ n < 256)) = true /\ ns.length <= 100000 then Out.ok (PV.bytes (ns.map fun n => n.toNat.toUInt8)) else .stuck := by
      show (outOpt (allInts xs)).bind _ = _
      rw [hn]; rfl
    rw [hn] at hne
    rw [e0]
    refine if_ne (P := fun z => Ev W A X s (call (.type "bytes") vs) z) (fun hc => ?_) hne
    obtain ⟨v, rfl, rp⟩ := r.is1
    obtain ⟨a, o, us, n, rfl, e1, c1, d1, x1, z1, r1⟩ := rp.isList
    have hi := r1.ints hn
    have hl : ns.length = _ := hi.length.symm
    refine with_size (call_bytes_ints ⟨_, e1, c1, _, d1⟩ hi (fun k hk => of_decide_eq_true (List.all_eq_true.mp hc.1 k hk)) (by rw [sizeLine_eq]; have := hi.length; have := hc.2; omega) S.hand fun h' t k hk hs => ?_)
    exact ⟨_, rfl, .bytes _ _, Step.of_all S.base hk hs⟩
theorem sum_ok : FnOK W n (.builtin "sum") sumP where
  kp := .inl nofun
  run := fun A X s vs ps S r hne => by
    obtain ⟨p, rfl⟩ := only_is hne
    obtain ⟨xs, rfl⟩ := onList_is (v := p) hne
    have hne : (outOpt (allInts xs)).bind (fun ns => Out.ok (PV.int ns.sum)) ≠ .stuck := hne
    obtain ⟨ns, hn⟩ := outOpt_ne (bind_ne hne)
    have e0 : sumP [.list xs] = .ok (.int ns.sum) := by
      show (outOpt (allInts xs)).bind _ = _
      rw [hn]; rfl
    rw [e0]
    obtain ⟨v, rfl, rp⟩ := r.is1
    obtain ⟨a, o, us, n, rfl, e1, c1, d1, x1, z1, r1⟩ := rp.isList
    have hi := r1.ints hn
    obtain ⟨ys, hys⟩ := hi.allInts.items
    refine with_size (sum_intListG (xs := ys) S.hand ⟨_, e1, c1, _, by rw [<- hys]; exact d1⟩ fun h' tk t' hk hs => ?_)
    have e : preSum (numAt ys) ys.size = ns.sum := by
      rw [preSum_eq, List.take_of_length_le (by simp)]
      have h1 := hi.numsOf
      have h2 := nums_intItems ys
      rw [<- hys] at h2
      rw [<- h2]
      exact congrArg List.sum h1
    rw [e]
    exact ⟨_, rfl, .int _ _, Step.of_all S.base hk hs⟩
end
noncomputable abbrev WW (w : World) (hB : Heap) (mg mb : Str -> Option Value) : Wd :=
  { prog := PySem.Challenge.pw_nu0355_01, w, K := K w.params, hB, mg, mb, tabs := [(372, 368, "_law_row_right" ++ ".<locals>." ++ "<lambda>"), (377, 375, "_law_made_right" ++ ".<locals>." ++ "<lambda>"), (382, 380, "law" ++ ".<locals>." ++ "<lambda>")], oc := 106, ec := 52 }
theorem k_ga (P : Params) : findIn (K P) (.ref 106) "__getattribute__" = some (some (.builtin "object.__getattribute__")) := by kernel_rfl
theorem k_gt (P : Params) : findIn (K P) (.ref 106) "__getattr__" = some none := by kernel_rfl
theorem k_told (P : Params) : findIn (K P) (.ref 106) "told" = some (some (.ref 103)) := by kernel_rfl
theorem k_toldf (P : Params) : typeIn (K P) (.ref 103) = some (.type "function") := by kernel_rfl
section
variable (P : Params) (c d s o i m : Int) (hs : Nat -> Int) (ts us : Nat -> Tok) (n : Nat)
theorem k_code : findObj (K P) 106 (some (dictOf (ordEnts c d s o i m hs ts us) n)) "code" = some (.value (.int c (us 0))) := by kernel_rfl
theorem k_dst : findObj (K P) 106 (some (dictOf (ordEnts c d s o i m hs ts us) n)) "dst" = some (.value (.int d (us 1))) := by kernel_rfl
theorem k_src : findObj (K P) 106 (some (dictOf (ordEnts c d s o i m hs ts us) n)) "src" = some (.value (.int s (us 2))) := by kernel_rfl
theorem k_off : findObj (K P) 106 (some (dictOf (ordEnts c d s o i m hs ts us) n)) "off" = some (.value (.int o (us 3))) := by kernel_rfl
theorem k_imm : findObj (K P) 106 (some (dictOf (ordEnts c d s o i m hs ts us) n)) "imm" = some (.value (.int i (us 4))) := by kernel_rfl
theorem k_more : findObj (K P) 106 (some (dictOf (ordEnts c d s o i m hs ts us) n)) "more" = some (.value (.int m (us 5))) := by kernel_rfl
theorem k_shadow : shadowIn (some (dictOf (ordEnts c d s o i m hs ts us) n)) "told" = some false := by kernel_rfl
end
section
variable {w : World} {hB : Heap} {mg mb : Str -> Option Value} {n : Nat} {A : Around} {X : Addr -> Prop} {s s' : Shared} {E : Value -> Shared -> Prop}
theorem attr_ord (ok : (WW w hB mg mb).Ok) (S : Sit (WW w hB mg mb) n A X s) {a dx : Addr} {c d r o i m : Int} {hs : Nat -> Int} {ts us : Nat -> Tok} {k : Nat} {name : Str} {q : PV} {expr : Bool}
    (e : s.heap.get? a = some (instObj 106 dx)) (ed : s.heap.get? dx = some (dictOf (ordEnts c d r o i m hs ts us) k)) (hq : attrP (.ord c d r o i m) name = .ok q) :
    wpAny (model (WW w hB mg mb).prog (WW w hB mg mb).w) A (getAttr (.ref a) name expr) (Post (WW w hB mg mb) s (RV (WW w hB mg mb) X) (.ok q)) E s := by
  have XK : (K w.params).In s.heap := ok.inK S.base
  have I : InstAt s.heap a (instObj 106 dx) 106 (some (dictOf (ordEnts c d r o i m hs ts us) k)) := ⟨e, rfl, rfl, ed⟩
  have fin : ∀ {x : Int} {t : Tok}, findObj (K w.params) 106 (some (dictOf (ordEnts c d r o i m hs ts us) k)) name = some (.value (.int x t)) -> Out.ok (PV.int x) = Out.ok q -> wpAny (model (WW w hB mg mb).prog (WW w hB mg mb).w) A (getAttr (.ref a) name expr) (Post (WW w hB mg mb) s (RV (WW w hB mg mb) X) (.ok q)) E s :=
    fun hf hq => get_value XK I (k_ga _) hf rfl (by cases hq; exact ⟨_, rfl, .int _ _, Step.toks S.base⟩)
  unfold attrP at hq
  simp only at hq
  split at hq
  · rename_i h; obtain rfl : name = "code" := by simpa using h
    exact fin (k_code ..) hq
  · split at hq
    · rename_i h; obtain rfl : name = "dst" := by simpa using h
      exact fin (k_dst ..) hq
    · split at hq
      · rename_i h; obtain rfl : name = "src" := by simpa using h
        exact fin (k_src ..) hq
      · split at hq
        · rename_i h; obtain rfl : name = "off" := by simpa using h
          exact fin (k_off ..) hq
        · split at hq
          · rename_i h; obtain rfl : name = "imm" := by simpa using h
            exact fin (k_imm ..) hq
          · split at hq
            · rename_i h; obtain rfl : name = "more" := by simpa using h
              exact fin (k_more ..) hq
            · cases hq
theorem attr_ok (ok : (WW w hB mg mb).Ok) : ∀ A X s v p name q expr (E : Value -> Shared -> Prop), Sit (WW w hB mg mb) n A X s -> Rep (WW w hB mg mb) s.heap X v p -> attrP p name = .ok q ->
    wpAny (model (WW w hB mg mb).prog (WW w hB mg mb).w) A (getAttr v name expr) (Post (WW w hB mg mb) s (RV (WW w hB mg mb) X) (.ok q)) E s := by
  intro A X s v p name q expr E S r hq
  induction p using PV.casesOn with
  | ord c d r' o i m =>
    obtain ⟨a, dx, hs, ts, us, nn, rfl, e, ed, _⟩ := r.isOrd
    exact attr_ord ok S e ed hq
  | _ => exact nomatch hq
theorem told_meth (ok : (WW w hB mg mb).Ok) : ∀ A X s v c d r o i m pl (E : Value -> Shared -> Prop), Sit (WW w hB mg mb) n A X s -> Rep (WW w hB mg mb) s.heap X v (.ord c d r o i m) ->
    wpAny (model (WW w hB mg mb).prog (WW w hB mg mb).w) A (getMethod v "told" pl) (fun fx s2 => fx = (.ref 103, [v]) /\ Step (WW w hB mg mb) NoA s s2) E s := by
  intro A X s v c d r o i m pl E S rv
  obtain ⟨a, dx, hs, ts, us, nn, rfl, e, ed, hX, hX'⟩ := rv.isOrd
  have XK : (K w.params).In s.heap := ok.inK S.base
  exact method_fn (od := some (dictOf (ordEnts _ _ _ _ _ _ _ _ _) _)) XK ⟨e, rfl, rfl, ed⟩ (k_ga _) (k_gt _) (k_told _) (k_toldf _) (k_shadow ..) ⟨rfl, Step.refl S.base⟩
end
noncomputable def codeIs (K : Frag) (cv : Value) (q : Str) : Bool := match cv with
  | .ref c => (match K.lookup c with
    | some ⟨_, _, .fields vs, _⟩ => (match (vs[1]? : Option Value) with
      | some (.str x _) => x == q
      | _ => false)
    | _ => false)
  | _ => false
theorem codeIs_rec {K : Frag} {cv : Value} {q : Str} {h : Heap} (X : K.In h) (e : codeIs K cv q = true) : h.CodeRec cv q := by
  unfold codeIs at e
  split at e
  · rename_i c
    split at e
    · rename_i oc od vs sl hk
      split at e
      · rename_i x t hv
        obtain rfl := eq_of_beq e
        exact ⟨c, _, vs, t, rfl, X _ _ hk, rfl, hv⟩
      · cases e
    · cases e
  · cases e
noncomputable def scopeOK (sc : Scope) (ps : List Str) : Bool :=
  sc.kind == .function && !sc.isCoroutine && !sc.isGenerator && sc.names.all (fun p => p.2 != .free && (p.2 != .cell || p.1 != "__classdict__")) && ps.all (isStored sc)
structure DefIn (W : Wd) (a : Addr) (fd : FuncData) (body : List Stmt) : Prop where
  lk : W.K.lookup a = some { cls := .type "function", data := .func fd }
  code : codeIs W.K fd.code fd.qualname = true
  gl : fd.globals = mainGlobals
  cl : fd.closure = []
  bi : fd.builtins = builtinsNs
  body : fd.body = .stmts body
  lam : fd.scope.names.lookup ("_law_heard" : Str) = some .globalImplicit -> ∃ c P, fd.code = .ref c /\ (c, P, fd.qualname ++ ".<locals>." ++ "<lambda>") ∈ W.tabs
section
variable {W : Wd} {G : Gl} {n : Nat} {A : Around} {X : Addr -> Prop} {s s' : Shared} {E : Value -> Shared -> Prop}
theorem scopeOK_fn {sc : Scope} {ps : List Str} (h : scopeOK sc ps = true) : FnScope sc /\ (∀ x, sc.names.lookup x ≠ some .free) /\ ∀ x ∈ ps, isStored sc x = true := by
  unfold scopeOK at h
  simp only [Bool.and_eq_true] at h
  obtain ⟨⟨⟨⟨h1, h2⟩, h3⟩, h4⟩, h5⟩ := h
  have h6 := List.all_eq_true.mp h4
  refine ⟨⟨by simpa using h1, by simpa using h2, by simpa using h3, fun x hx => ?_⟩, fun x hx => ?_, List.all_eq_true.mp h5⟩
  · have := h6 _ (mem_of_lookup hx)
    simp only [Bool.and_eq_true, Bool.or_eq_true, bne_iff_ne] at this
    rcases this.2 with q | q
    · exact absurd rfl q
    · simpa using q
  · have := h6 _ (mem_of_lookup hx)
    simp only [Bool.and_eq_true, bne_iff_ne] at this
    exact this.1 rfl
theorem def_run (ok : W.Ok) (Yh : Hy W G n) (k : Nat) {a : Addr} {fd : FuncData} {body : List Stmt} {ps : List Str} (D : DefIn W a fd body) (hs : scopeOK fd.scope ps = true)
    (S : Sit W (n + 3 * k + 1) A X s) {vals all : List Value} {args : List PV} (hb : BindsTo s fd ⟨vals, []⟩ (ps.zip all)) (r : Reps W s.heap X all args)
    (hne : ((run G k).b fd.scope (ps.zip args).reverse body).bind toRet ≠ .stuck) : Ev W A X s (call (.ref a) vals) (((run G k).b fd.scope (ps.zip args).reverse body).bind toRet) := by
  obtain ⟨FS, hf, hst⟩ := scopeOK_fn hs
  have XK := ok.inK S.base
  exact fn_call (SB := (run_sound Yh k).2.2) ok S (XK _ _ D.lk) rfl D.gl D.cl D.bi D.body (codeIs_rec XK D.code) FS hf hb (Binds.zip r) (fun x hx => hst _ (List.of_mem_zip hx).1) D.lam hne
theorem def_ok (ok : W.Ok) (Yh : Hy W G n) (k : Nat) {a : Addr} {fd : FuncData} {body : List Stmt} {ps : List Str} (D : DefIn W a fd body) (hs : scopeOK fd.scope ps = true) (hkeep : keepIn W.K (.ref a) = true)
    (hbind : ∀ vals : List Value, vals.length = ps.length -> bindArgs fd ⟨vals, []⟩ = pure (ps.zip vals)) {F : List PV -> Out PV} (hF : ∀ args, F args ≠ .stuck -> fnP G k fd.scope ps body args = F args) : FnOK W (n + 3 * k + 1) (.ref a) F where
  kp := .inr hkeep
  run := fun A X s vs args S r hne => by
    have e := hF args hne
    rw [<- e] at hne ⊢
    unfold fnP at hne ⊢
    by_cases hl : ps.length = args.length
    · rw [if_pos hl] at hne ⊢
      exact def_run ok Yh k D hs S (BindsTo.of_eq (hbind vs (r.length.trans hl.symm))) r hne
    · rw [if_neg hl] at hne; exact (hne rfl).elim
end
section
open PySem.Builtin PySem.Builtin.ObjectAttr
section
variable {prog : Program} {w : World} {A : Around} {E : Value -> Shared -> Prop} {s : Shared} {K : Frag} {C x : Addr} {R : Result -> Shared -> Prop}
theorem putL_new {name : Str} {hs : Int} {key v : Value} : ∀ {es : List DictEntry}, es.any (·.key.isStr name) = false -> putL name hs key v es = es ++ [⟨hs, key, v⟩]
  | [], _ => rfl
  | e :: r, h => by
    rw [List.any_cons, Bool.or_eq_false_iff] at h
    simp only [putL, h.1, Bool.false_eq_true, if_false, putL_new h.2, List.cons_append]
theorem st_dict {M : Model} {dx : Addr} {es : List DictEntry} {n : Nat} {name : Str} {tk : Tok} {v : Value} {Q : Fin -> Shared -> Prop} (D : s.heap.get? dx = some (dictOf es n)) (hn : es.any (·.key.isStr name) = false) (hr : es.any (·.refKey) = false) (hz : es.length <= 1000)
    (h : ∀ h' hs, h'.get? dx = some (dictOf (es ++ [⟨hs, .str name s.toks, v⟩]) (n + 1)) -> Heap.SameBut dx s.heap h' -> Q (.done (.ret .none)) { s with heap := h', toks := s.toks + 1 }) :
    wpAny M A (storeInDict dx (.str name tk) name v) Q E s := by
  unfold storeInDict newKeyGuard
  refine wpAny_bind (wpAny_pure (wpAny_bind ?_))
  unfold nsSet
  refine wpAny_bind (wpAny_bind (wpAny_askSetting (wpAny_pure (wpAny_bind (wpAny_mkText (wpAny_bind (wpAny_loadPart D ?_)))))))
  dsimp only
  have c : (!es.toArray.any (·.key.isStr name) && es.toArray.any (·.refKey)) = false := by
    rw [<- Array.any_toList, <- Array.any_toList]
    simp only [hr, Bool.and_false]
  rw [aRefKeyMayBeTheName_at, c]
  refine wpAny_updatePart D ?_
  have e1 : Obj.putName name (PyData.keyHash M.w.params name) (.str name s.toks) v (dictOf es n) = dictOf (es ++ [⟨PyData.keyHash M.w.params name, .str name s.toks, v⟩]) (n + 1) := by
    rw [putName_dict, putL_new hn]
    unfold putN
    rw [hn]; rfl
  have D' := Heap.get?_update_self (Obj.putName name (PyData.keyHash M.w.params name) (.str name s.toks) v) D (by rw [e1]; rfl)
  rw [e1] at D'
  refine wpAny_bind (wpAny_lookBehind D' (pastItsLine_dict (by simp only [List.size_toArray, List.length_append, List.length_cons, List.length_nil, sizeLine_eq]; omega)) ?_)
  exact wpAny_pure (h _ _ D' (Heap.SameBut.update ..))
structure Sets (K : Frag) (C : Addr) (cd : ClassData) : Prop where
  cls : clsIn K C = some cd
  ne : cd.mro.isEmpty = false
  obj : cd.mro.contains (.type "object") = true
  pass : ∀ self, refuseLoop self "__setattr__" cd.mro = pure ()
  dict : cd.hasDict = true
  sa : findIn K (.ref C) "__setattr__" = some (some (.builtin "object.__setattr__"))
theorem sa_open {cd : ClassData} {ox : Obj} {od : Option Obj} {name : Str} {v : Value} {Q : Unit -> Shared -> Prop} (Z : Sets K C cd) (X : K.In s.heap) (I : InstAt s.heap x ox C od) (ht : takerIn K C name = some none)
    (h : ∀ (A : Around) tk b, wpAny (model prog w) A (storeInOwnDict (.ref x) (.ref C) (.str name tk) name v b) (fun fin s' => fin = .done (.ret .none) /\ Q () s') E { s with toks := s.toks + 1 }) :
    wpAny (model prog w) A (setAttr (.ref x) name v) Q E s := by
  refine set_plain X I Z.sa ?_
  have SF := PySem.F.store_object
  have I1 : InstAt ({ s with toks := s.toks + 1 } : Shared).heap x ox C od := I
  have X1 : K.In ({ s with toks := s.toks + 1 } : Shared).heap := X
  generalize ({ s with toks := s.toks + 1 } : Shared) = s1 at h I1 X1 ⊢
  have sub : Looks (model prog w) s1.heap (isInstance (.ref x) (.type "object")) true := I1.type.andThen (looks_mroIn X1 (by unfold mroIn; rw [Z.cls, Option.bind_some, if_neg (by rw [Z.ne]; decide), Z.obj]))
  refine codeAny_call_builtin SF.slot.plain SF.entry (@check_slot (model prog w) _ _ s1 "object.__setattr__" "object" "__setattr__" (.ref x) [.str name s.toks, v] [] _ SF.kind SF.split sub (SF.args (.ref x) (.str name s.toks) v) ?_)
  obtain ⟨attr, ha, hr⟩ := Option.bind_eq_some_iff.mp ht
  have hm : Looks (model prog w) s1.heap (mroOf (.ref C)) cd.mro := (looks_clsIn X1 Z.cls).andThen .now
  have L3 : Looks (model prog w) s1.heap (storeTaker? attr) none := by
    induction attr using Option.casesOn with
    | none => exact .now
    | some a =>
      obtain ⟨b, hb, hb2⟩ := Option.map_eq_some_iff.mp hr
      refine (looks_takesIn X1 hb).andThen ?_
      cases b
      · exact .now
      · cases hb2
  rw [osa_eq, refuse_eq]
  refine wpAny_bind (wpAny_bind (I1.type.here (wpAny_bind (hm.here ?_))))
  rw [Z.pass]
  refine wpAny_pure (wpAny_bind (I1.type.here (wpAny_bind ((looks_findIn X1 ha).here (wpAny_bind (L3.here ?_))))))
  refine wpAny_mono (h _ _ _) (fun fin s' q => ?_) fun _ _ q => q
  obtain ⟨rfl, q⟩ := q
  exact q
theorem sa_dict {cd : ClassData} {ox : Obj} {dx : Addr} {es : List DictEntry} {n : Nat} {name : Str} {v : Value} {Q : Unit -> Shared -> Prop} (Z : Sets K C cd) (X : K.In s.heap) (I : InstAt s.heap x ox C (some (dictOf es n))) (hd : ox.dict = some dx) (ht : takerIn K C name = some none)
    (hn : es.any (·.key.isStr name) = false) (hr : es.any (·.refKey) = false) (hz : es.length <= 1000)
    (h : ∀ h' hs tk, h'.get? dx = some (dictOf (es ++ [⟨hs, .str name tk, v⟩]) (n + 1)) -> Heap.SameBut dx s.heap h' -> Q () { s with heap := h', toks := s.toks + 2 }) :
    wpAny (model prog w) A (setAttr (.ref x) name v) Q E s := by
  refine sa_open Z X I ht fun A tk b => ?_
  obtain ⟨hx, hcl, hnn, hdd⟩ := I
  obtain ⟨oc, odi, oda, osl⟩ := ox
  dsimp only at hcl hd hdd
  subst hcl hd
  have hx' : ({ s with toks := s.toks + 1 } : Shared).heap.get? x = some ⟨.ref C, some dx, oda, osl⟩ := hx
  refine wpAny_bind (wpAny_pure (wpAny_bind (wpAny_bind (wpAny_loadPart hx' (wpAny_bind (looks_clsIn (M := model prog w) X Z.cls _ _ _ _ (fun _ _ e => e) ?_))))))
  rw [Z.dict]
  refine wpAny_pure (a := some dx) ?_
  exact st_dict (s := { s with toks := s.toks + 1 }) hdd hn hr hz fun h' hs a b => ⟨rfl, h h' hs _ a b⟩
theorem sa_make {cd : ClassData} {ox : Obj} {name : Str} {v : Value} {Q : Unit -> Shared -> Prop} (Z : Sets K C cd) (X : K.In s.heap) (I : InstAt s.heap x ox C none) (hd : ox.dict = none) (hf : ∀ d, ({ ox with dict := d } : Obj).isFreed = false) (ht : takerIn K C name = some none)
    (h : ∀ h' hs tk, h'.get? s.heap.objs.size = some (dictOf [⟨hs, .str name tk, v⟩] 1) -> h'.get? x = some { ox with dict := some s.heap.objs.size } -> (∀ b o, b ≠ x -> s.heap.get? b = some o -> h'.get? b = some o) -> h'.objs.size = s.heap.objs.size + 1 -> Q () { s with heap := h', toks := s.toks + 2 }) :
    wpAny (model prog w) A (setAttr (.ref x) name v) Q E s := by
  refine sa_open Z X I ht fun A tk b => ?_
  obtain ⟨hx, hcl, hnn, hdd⟩ := I
  obtain ⟨oc, odi, oda, osl⟩ := ox
  dsimp only at hcl hd hdd
  subst hcl hd
  have hx' : ({ s with toks := s.toks + 1 } : Shared).heap.get? x = some ⟨.ref C, none, oda, osl⟩ := hx
  have hlt := Heap.lt_size hx
  refine wpAny_bind (wpAny_pure (wpAny_bind (wpAny_bind (wpAny_loadPart hx' (wpAny_bind (looks_clsIn (M := model prog w) X Z.cls _ _ _ _ (fun _ _ e => e) ?_))))))
  rw [Z.dict]
  have fin : wpAny (model prog w) A (do
      let d <- alloc { cls := .type "dict", data := .dict #[] }
      update x fun o => { o with dict := some d }
      dictMade (.ref C) x d) (fun r s' => wpAny (model prog w) A (match r with | some d => storeInDict d (.str name tk) name v | none => noDictFor (.ref x) (.ref C) name b) (fun fin s' => fin = .done (.ret .none) /\ Q () s') E s') E { s with toks := s.toks + 1 } := by
    refine wpAny_bind (wpAny_alloc ?_)
    have hx2 := Heap.get?_push_of_some { cls := .type "dict", data := .dict #[] } hx
    have hd2 := Heap.get?_push_size s.heap (o := dictOf [] 0) rfl
    refine wpAny_bind (wpAny_update hx2 ?_)
    refine wpAny_pure ?_
    have hx3 := Heap.get?_update_self (fun o : Obj => { o with dict := some s.heap.objs.size }) hx2 (hf _)
    have hd3 := (Heap.get?_update_other (h := s.heap.push (dictOf [] 0)) (a := x) (fun o : Obj => { o with dict := some s.heap.objs.size }) (b := s.heap.objs.size) (Nat.ne_of_lt hlt)).trans hd2
    refine st_dict (es := []) (n := 0) hd3 rfl rfl (by decide) fun h' hs a b => ⟨rfl, ?_⟩
    refine h h' hs _ a (b.extBut _ _ (Nat.ne_of_lt hlt) hx3) (fun c o hc e => b.extBut _ _ (Nat.ne_of_lt (Heap.lt_size e)) ((Heap.get?_update_other _ _ (Ne.symm hc)).trans (Heap.get?_push_of_some _ e))) ?_
    have := b.1
    simp only [Heap.size_update, Heap.size_push] at this
    exact this
  cases oda <;> first | exact fin | cases hnn
end
end
section
open PySem.Builtin PySem.Builtin.ObjectAttr
section
variable {W : Wd} {n : Nat} {sc : Scope} {σ : Vars} {env : Env} {A : Around} {X : Addr -> Prop} {s s' : Shared} {E : Value -> Shared -> Prop} {L : Addr} {old : Nat}
structure Sit0 (W : Wd) (n : Nat) (A : Around) (s : Shared) : Prop where
  base : Base W s.heap
  room : Room n A
  fr : ∃ l, A.frames = some l /\ Stk W l s.heap
theorem Sit.to0 (S : Sit W n A X s) : Sit0 W n A s := ⟨S.base, S.room, S.fr⟩
theorem Sit0.step {Y : Addr -> Prop} (S : Sit0 W n A s) (t : Step W Y s s') : Sit0 W n A s' := ⟨t.base, S.room, let ⟨l, a, b⟩ := S.fr; ⟨l, a, b.step t.fr⟩⟩
theorem Sit0.mark {e : Option Value} (S : Sit0 W n A s) : Sit0 W n (A.mark e) s := ⟨S.base, S.room, S.fr⟩
theorem Sit0.less {m : Nat} (S : Sit0 W n A s) (h : m <= n) : Sit0 W m A s := { S with room := S.room.less h }
theorem fn_in (ok : W.Ok) (S : Sit0 W (n + 1) A s) {a : Addr} {o : Obj} {fd : FuncData} {body : List Stmt} {vals : List Value} {binds : List (Str × Value)} {args : List (Str × PV)}
    (ho : s.heap.get? a = some o) (hd : o.data = .func fd) (hgl : fd.globals = mainGlobals) (hcl : fd.closure = []) (hbi : fd.builtins = builtinsNs) (hbody : fd.body = .stmts body) (hrec : s.heap.CodeRec fd.code fd.qualname)
    (FS : FnScope fd.scope) (hfree : ∀ x, fd.scope.names.lookup x ≠ some .free) (hbt : BindsTo s fd ⟨vals, []⟩ binds) (hb : Binds W s.heap X binds args) (hst : ∀ x ∈ binds, isStored fd.scope x.1 = true)
    (hlam : fd.scope.names.lookup ("_law_heard" : Str) = some .globalImplicit -> ∃ c P, fd.code = .ref c /\ (c, P, fd.qualname ++ ".<locals>." ++ "<lambda>") ∈ W.tabs) {R : Result -> Shared -> Prop}
    (h : ∀ env s1, Step W (fun a => s.heap.objs.size <= a) s s1 -> Sit0 W n (A.deeper env) s1 -> AtTop (A.deeper env) env -> Fra W fd.scope args.reverse X env s.heap.objs.size s.heap.objs.size s1.heap ->
      wpAny (model W.prog W.w) (A.deeper env) (execs body env) (fun f s' => R (.ok (.ret (match f with | .ret v => v | _ => .none))) s') (fun e s' => wpAny (model W.prog W.w) (A.deeper env) (leaving env e) (fun _ s'' => R (.error e) s'') (fun e' s'' => R (.error e') s'') s') s1) :
    codeAny (model W.prog W.w) A (.call (.ref a) ⟨vals, []⟩) R s := by
  obtain ⟨l, hA, St⟩ := S.fr
  refine (codeAny_call_function S.room.dep ho hd FS.co FS.gen hbody hrec (hbt _ _ _ _ ?_))
  rw [hgl, hcl, hbi]
  refine enter_fn (X := X) S.base FS.kind hst FS.cd hfree hlam hb fun env s1 hf hsc t1 F hlt => ⟨ok.lim t1.base, codeAny_func ?_⟩
  exact h env s1 t1 ⟨t1.base, S.room.deeper env, ⟨env :: l, by show A.frames.map _ = _; rw [hA]; rfl, fun z hz => by
        rcases List.mem_cons.mp hz with rfl | hz
        · obtain ⟨o, es, ep, a1, a2, a3⟩ := F.obj
          exact ⟨by rw [hsc]; exact FS.kind, _, o, es, ep, hf, S.base.size, a1, a2, a3⟩
        · exact (St.step t1.fr) z hz⟩⟩ ⟨env, l, _, by show A.frames.map _ = _; rw [hA]; rfl, hf, hf⟩ F
theorem def_in (ok : W.Ok) {a : Addr} {fd : FuncData} {body : List Stmt} {ps : List Str} (D : DefIn W a fd body) (hs : scopeOK fd.scope ps = true)
    (S : Sit0 W (n + 1) A s) {vals all : List Value} {args : List PV} (hb : BindsTo s fd ⟨vals, []⟩ (ps.zip all)) (r : Reps W s.heap X all args) {R : Result -> Shared -> Prop}
    (h : ∀ env s1, Step W (fun a => s.heap.objs.size <= a) s s1 -> Sit0 W n (A.deeper env) s1 -> AtTop (A.deeper env) env -> Fra W fd.scope (ps.zip args).reverse X env s.heap.objs.size s.heap.objs.size s1.heap ->
      wpAny (model W.prog W.w) (A.deeper env) (execs body env) (fun f s' => R (.ok (.ret (match f with | .ret v => v | _ => .none))) s') (fun e s' => wpAny (model W.prog W.w) (A.deeper env) (leaving env e) (fun _ s'' => R (.error e) s'') (fun e' s'' => R (.error e') s'') s') s1) :
    codeAny (model W.prog W.w) A (.call (.ref a) ⟨vals, []⟩) R s := by
  obtain ⟨FS, hf, hst⟩ := scopeOK_fn hs
  have XK := ok.inK S.base
  exact fn_in ok S (XK _ _ D.lk) rfl D.gl D.cl D.bi D.body (codeIs_rec XK D.code) FS hf hb (Binds.zip r) (fun x hx => hst _ (List.of_mem_zip hx).1) D.lam h
theorem var_stmt {x : Str} {px : Pos} {p : PV} {Q : Value -> Shared -> Prop} {M : Model} (F : Fra W sc σ X env L old s.heap) (hx : σ.lookup x = some p) (hd : (x == ("__debug__" : Str)) = false) (h : ∀ v, Rep W s.heap X v p -> Q v s) : wpAny M A (eval (.Name x px) env) Q E s :=
  wpAny_Name (loadName_var F.envOK hx h) hd
theorem set_stmt {x f : Str} {p1 p2 p3 p4 : Pos} {p : PV} {e : Addr} {Q : Flow -> Shared -> Prop} {M : Model} (F : Fra W sc σ X env L old s.heap) (hs : σ.lookup ("self" : Str) = some (.opq e)) (hx : σ.lookup x = some p) (hd : (x == ("__debug__" : Str)) = false)
    (h : ∀ v, Rep W s.heap X v p -> wpAny M A (setAttr (.ref e) f v) (fun _ => Q .next) E s) : wpAny M A (exec (.Assign [.Attribute (.Name "self" p1) f p2] (.Name x p3) p4) env) Q E s :=
  plainObj_wpAny_Assign_Attribute (var_stmt F hx hd fun v rv => var_stmt F hs (by decide) fun u ru => by rw [ru.isOpq]; exact h v rv)
theorem Room.under {c : Code} (r : Room (n + 1) A) (hw : c.weight = 1) (hu : c.cUnits <= 3) : Room n (A.under c) := ⟨by have := r.1; show A.depth + c.weight + n < 900; omega, by have := r.2; show A.units + c.cUnits + 10 * n + 200 < 9900; omega⟩
theorem Sit0.under {C : Addr} {rest : List Value} (S : Sit0 W (n + 1) A s) : Sit0 W n (A.under (.builtin "type.__call__" ⟨.ref C :: rest, []⟩)) s :=
  ⟨S.base, S.room.under (by kernel_rfl) (by rw [show (Code.builtin "type.__call__" ⟨.ref C :: rest, []⟩).cUnits = 1 from by kernel_rfl]; decide), by
    obtain ⟨l, a, b⟩ := S.fr
    exact ⟨l, by unfold Around.under; simp only [a]; rfl, b⟩⟩
end
end
section
open PySem.Builtin PySem.Builtin.ObjectAttr
noncomputable def cdOf (o : Obj) : ClassData := match o.data with
  | .cls cd => cd
  | _ => { name := "", bases := [], mro := [], ns := 0, qualname := "" }
theorem k_o_sets (P : Params) : Sets (K P) 106 (cdOf ob_106) where
  cls := by kernel_rfl
  ne := by kernel_rfl
  obj := by kernel_rfl
  pass := fun self => refuse_only self (by kernel_rfl)
  dict := by kernel_rfl
  sa := by kernel_rfl
theorem k_o_makes (P : Params) : makesIn (K P) 106 = true := by kernel_rfl
theorem k_o_init (P : Params) : findIn (K P) (.ref 106) "__init__" = some (some (.ref 96)) := by kernel_rfl
theorem k_o_fn (P : Params) : typeIn (K P) (.ref 96) = some (.type "function") := by kernel_rfl
theorem k_t_code (P : Params) : takerIn (K P) 106 "code" = some none := by kernel_rfl
theorem k_t_dst (P : Params) : takerIn (K P) 106 "dst" = some none := by kernel_rfl
theorem k_t_src (P : Params) : takerIn (K P) 106 "src" = some none := by kernel_rfl
theorem k_t_off (P : Params) : takerIn (K P) 106 "off" = some none := by kernel_rfl
theorem k_t_imm (P : Params) : takerIn (K P) 106 "imm" = some none := by kernel_rfl
theorem k_t_more (P : Params) : takerIn (K P) 106 "more" = some none := by kernel_rfl
section
variable {w : World} {hB : Heap} {mg mb : Str -> Option Value} {n : Nat} {A : Around} {X : Addr -> Prop} {s s' : Shared} {E : Value -> Shared -> Prop} {sc : Scope} {σ : Vars} {env : Env} {L old : Addr}
theorem ord_set (ok : (WW w hB mg mb).Ok) {x dx : Addr} {f : Str} {p1 p2 p3 p4 : Pos} {r : List Stmt} {es : List DictEntry} {k : Nat} {i : Int} {Q : Flow -> Shared -> Prop}
    (F : Fra (WW w hB mg mb) sc σ X env L old s.heap) (B : Base (WW w hB mg mb) s.heap) (hx : s.heap.get? x = some (instObj 106 dx)) (hd : s.heap.get? dx = some (dictOf es k)) (hX : X dx) (hlo : hB.objs.size <= dx) (hxd : x ≠ dx)
    (hs : σ.lookup ("self" : Str) = some (.opq x)) (hv : σ.lookup f = some (.int i)) (hdb : (f == ("__debug__" : Str)) = false) (ht : takerIn (K w.params) 106 f = some none) (hn : es.any (·.key.isStr f) = false) (hr : es.any (·.refKey) = false) (hz : es.length <= 1000)
    (rest : ∀ s' hs tk u, Fra (WW w hB mg mb) sc σ X env L old s'.heap -> Step (WW w hB mg mb) (fun a => a = dx) s s' -> s'.heap.get? x = some (instObj 106 dx) -> s'.heap.get? dx = some (dictOf (es ++ [⟨hs, .str f tk, .int i u⟩]) (k + 1)) ->
      wpAny (model (WW w hB mg mb).prog w) A (execs r env) Q E s') :
    wpAny (model (WW w hB mg mb).prog w) A (execs (.Assign [.Attribute (.Name "self" p1) f p2] (.Name f p3) p4 :: r) env) Q E s := by
  have XK : (K w.params).In s.heap := ok.inK B
  have I : InstAt s.heap x (instObj 106 dx) 106 (some (dictOf es k)) := ⟨hx, rfl, rfl, hd⟩
  refine wpAny_execs_cons (set_stmt F hs hv hdb fun v rv => ?_)
  obtain ⟨u, rfl⟩ := rv.isInt
  refine sa_dict (k_o_sets _) XK I rfl ht hn hr hz fun h' hs2 tk e1 e2 => ?_
  have t : Step (WW w hB mg mb) (fun a => a = dx) s { s with heap := h', toks := s.toks + 2 } := Step.one B hd hlo nofun (show Value.type "dict" ≠ Value.type "code" by decide) dict_ne_frame e2
  refine rest _ hs2 tk u (F.step t (fun a q => ?_) fun v p r => r.keeps t.keeps fun a q => q ▸ hX) t (e2.extBut _ _ hxd hx) e1
  subst q
  refine ⟨fun q => ?_, fun v q => ?_⟩
  · obtain ⟨o, es', ep, e, hc, _⟩ := F.obj
    rw [<- q, hd] at e; cases e; exact absurd hc dict_ne_frame
  · obtain ⟨o, e, hc⟩ := q
    rw [hd] at e; cases e; cases hc
noncomputable abbrev ordNames : List Str := ["self", "code", "dst", "src", "off", "imm", "more"]
noncomputable abbrev fd96 : FuncData := fd_96
theorem D96 : DefIn (WW w hB mg mb) 96 fd96 (fBody d_Order_init.1) where
  lk := by show (K w.params).lookup 96 = _; kernel_rfl
  code := by show codeIs (K w.params) _ _ = true; kernel_rfl
  gl := rfl
  cl := rfl
  bi := rfl
  body := rfl
  lam := fun q => by
    have : fd96.scope.names.lookup ("_law_heard" : Str) = none := by kernel_rfl
    rw [this] at q; cases q
theorem sc96 : scopeOK fd96.scope ordNames = true := by kernel_rfl
theorem bind96_7 (P : Params) (a b c d e f g : Value) (s : Shared) (X : (K P).In s.heap) : BindsTo s fd96 ⟨[a, b, c, d, e, f, g], []⟩ (ordNames.zip [a, b, c, d, e, f, g]) :=
  binds_K (T := 89) (o := ob_89) (items := #[.int 0 338]) (n := 0) X rfl (by kernel_rfl) rfl rfl (by kernel_rfl)
theorem bind96_6 (P : Params) (a b c d e f : Value) (s : Shared) (X : (K P).In s.heap) : BindsTo s fd96 ⟨[a, b, c, d, e, f], []⟩ (ordNames.zip [a, b, c, d, e, f, .int 0 338]) :=
  binds_K (T := 89) (o := ob_89) (items := #[.int 0 338]) (n := 0) X rfl (by kernel_rfl) rfl rfl (by kernel_rfl)
end
end
section
open PySem.Builtin PySem.Builtin.ObjectAttr
section
variable {w : World} {hB : Heap} {mg mb : Str -> Option Value} {n : Nat} {A : Around} {X : Addr -> Prop} {s s' : Shared} {E : Value -> Shared -> Prop} {sc : Scope} {σ : Vars} {env : Env} {L old : Addr}
theorem order_body (ok : (WW w hB mg mb).Ok) {x dx : Addr} {c d r o i m : Int} {Q : Flow -> Shared -> Prop}
    (F : Fra (WW w hB mg mb) sc [("more", .int m), ("imm", .int i), ("off", .int o), ("src", .int r), ("dst", .int d), ("code", .int c), ("self", .opq x)] X env L old s.heap) (B : Base (WW w hB mg mb) s.heap) (hx : s.heap.get? x = some (instObj 106 dx)) (hd : s.heap.get? dx = some (dictOf [] 0)) (hX : X dx) (hlo : hB.objs.size <= dx) (hxd : x ≠ dx)
    (fin : ∀ s' hs ts us, Step (WW w hB mg mb) (fun a => a = dx) s s' -> s'.heap.get? x = some (instObj 106 dx) -> s'.heap.get? dx = some (dictOf (ordEnts c d r o i m hs ts us) 6) -> Q .next s') :
    wpAny (model (WW w hB mg mb).prog w) A (execs (fBody d_Order_init.1) env) Q E s := by
  delta d_Order_init fBody
  dsimp only
  refine ord_set ok (i := c) F B hx hd hX hlo hxd (by rfl) (by rfl) (by decide) (k_t_code _) rfl rfl (by decide) fun s1 h1 k1 u1 F t1 hx1 hd1 => ?_
  refine ord_set ok (i := d) F t1.base hx1 hd1 hX hlo hxd (by rfl) (by rfl) (by decide) (k_t_dst _) (by rfl) rfl (by simp) fun s2 h2 k2 u2 F t2 hx2 hd2 => ?_
  refine ord_set ok (i := r) F t2.base hx2 hd2 hX hlo hxd (by rfl) (by rfl) (by decide) (k_t_src _) (by rfl) rfl (by simp) fun s3 h3 k3 u3 F t3 hx3 hd3 => ?_
  refine ord_set ok (i := o) F t3.base hx3 hd3 hX hlo hxd (by rfl) (by rfl) (by decide) (k_t_off _) (by rfl) rfl (by simp) fun s4 h4 k4 u4 F t4 hx4 hd4 => ?_
  refine ord_set ok (i := i) F t4.base hx4 hd4 hX hlo hxd (by rfl) (by rfl) (by decide) (k_t_imm _) (by rfl) rfl (by simp) fun s5 h5 k5 u5 F t5 hx5 hd5 => ?_
  refine ord_set ok (i := m) F t5.base hx5 hd5 hX hlo hxd (by rfl) (by rfl) (by decide) (k_t_more _) (by rfl) rfl (by simp) fun s6 h6 k6 u6 F t6 hx6 hd6 => ?_
  refine wpAny_execs_nil (fin s6 (fun k => match k with | 0 => h1 | 1 => h2 | 2 => h3 | 3 => h4 | 4 => h5 | _ => h6) (fun k => match k with | 0 => k1 | 1 => k2 | 2 => k3 | 3 => k4 | 4 => k5 | _ => k6) (fun k => match k with | 0 => u1 | 1 => u2 | 2 => u3 | 3 => u4 | 4 => u5 | _ => u6)
    (t1.trans (t2.trans (t3.trans (t4.trans (t5.trans t6))))) hx6 hd6)
theorem order_make (ok : (WW w hB mg mb).Ok) {vals all : List Value} {c d r o i m : Int} (S : Sit (WW w hB mg mb) (n + 2) A X s) (hr : Reps (WW w hB mg mb) s.heap X all [.int c, .int d, .int r, .int o, .int i, .int m])
    (hb : ∀ s x, (K w.params).In s.heap -> BindsTo s fd96 ⟨.ref x :: vals, []⟩ (ordNames.zip (.ref x :: all))) :
    wpAny (model (WW w hB mg mb).prog w) A (call (.ref 106) vals) (fun v s' => Rep (WW w hB mg mb) s'.heap X v (.ord c d r o i m) /\ Step (WW w hB mg mb) NoA s s') E s := by
  obtain ⟨hh, g, dr, tk, os⟩ := s
  have XK : (K w.params).In hh := ok.inK S.base
  refine wpAny_call (make_core (makes_of XK (k_o_makes _)) (looks_findIn XK (k_o_init _)) (fun self => bind_fn XK self (k_o_fn _)) (.inl rfl) ?_)
  have t1 : Step (WW w hB mg mb) NoA ⟨hh, g, dr, tk, os⟩ ⟨hh.push emptyDict, g, dr, tk, os⟩ := Step.push S.base
  have t2 : Step (WW w hB mg mb) NoA ⟨hh.push emptyDict, g, dr, tk, os⟩ ⟨(hh.push emptyDict).push (instObj 106 hh.objs.size), g, dr, tk, os⟩ := Step.push t1.base
  have t12 := t1.trans t2
  have hd0 : ((hh.push emptyDict).push (instObj 106 hh.objs.size)).get? hh.objs.size = some emptyDict := Heap.get?_push_of_some _ (Heap.get?_push_size _ rfl)
  have hx0 : ((hh.push emptyDict).push (instObj 106 hh.objs.size)).get? (hh.objs.size + 1) = some (instObj 106 hh.objs.size) := by
    have := Heap.get?_push_size (hh.push emptyDict) (o := instObj 106 hh.objs.size) rfl
    rw [Heap.size_push] at this
    exact this
  have hsz : ((hh.push emptyDict).push (instObj 106 hh.objs.size)).objs.size = hh.objs.size + 2 := by simp only [Heap.size_push]
  obtain ⟨X', hX'⟩ : ∃ X' : Addr -> Prop, X' = fun a => X a \/ a = hh.objs.size := ⟨_, rfl⟩
  have xd : X' hh.objs.size := by rw [hX']; exact .inr rfl
  have r1 : Reps (WW w hB mg mb) ((hh.push emptyDict).push (instObj 106 hh.objs.size)) X' (.ref (hh.objs.size + 1) :: all) [.opq (hh.objs.size + 1), .int c, .int d, .int r, .int o, .int i, .int m] := by
    refine .cons (.opq _) ?_
    exact (Reps.widen (fun a ha q => by rw [hX'] at q; exact q.elim id fun z => absurd (z ▸ ha) (Nat.lt_irrefl _)) hr).keeps t12.keeps fun a f => f.elim
  refine def_in ok D96 sc96 ((S.to0.step t12).under (rest := vals)) (hb _ _ (ok.inK t12.base)) r1 fun env s3 t3 S3 T3 F3 => ?_
  have hnD : ∀ a o, ((hh.push emptyDict).push (instObj 106 hh.objs.size)).get? a = some o -> o.cls ≠ .none -> o.cls ≠ .type "frame" -> s3.heap.get? a = some o := fun a o e h1 h2 => t3.keeps.get e (fun q => Nat.lt_irrefl _ (Nat.lt_of_lt_of_le (Heap.lt_size e) q)) h1 h2
  refine order_body ok (x := hh.objs.size + 1) (dx := hh.objs.size) F3 S3.base (hnD _ _ hx0 nofun nofun) (hnD _ _ hd0 nofun dict_ne_frame) xd S.base.size (Nat.ne_of_gt (Nat.lt_succ_self _)) fun s4 hs ts us t4 hx4 hd4 => ?_
  refine ⟨rfl, ?_⟩
  refine ⟨.ord hx4 hd4 (fun q => Nat.lt_irrefl _ (Nat.lt_trans (Nat.lt_succ_self _) (S.priv _ q))) (fun q => Nat.lt_irrefl _ (S.priv _ q)), ?_⟩
  refine (t12.no.trans ((t3.mono fun a _ q => ?_).trans (t4.mono (Y' := fun a => hh.objs.size <= a) fun a _ q => ?_))).mono fun a ha q => absurd ha (Nat.not_lt.mpr q)
  · exact Nat.le_trans (by rw [show (Shared.mk ((hh.push emptyDict).push (instObj 106 hh.objs.size)) g dr tk os).heap.objs.size = _ from hsz]; omega) q
  · exact q ▸ Nat.le_refl _
theorem order_ok (ok : (WW w hB mg mb).Ok) : FnOK (WW w hB mg mb) (n + 2) (.ref 106) ordP where
  kp := .inr (by show keepIn (K w.params) _ = true; kernel_rfl)
  run := fun A X s vs ps S r hne => by
    obtain ⟨c, q, rfl⟩ := popInt_is hne
    obtain ⟨d, q, rfl⟩ := popInt_is (l := q) hne
    obtain ⟨s1, q, rfl⟩ := popInt_is (l := q) hne
    obtain ⟨o, q, rfl⟩ := popInt_is (l := q) hne
    obtain ⟨i, q, rfl⟩ := popInt_is (l := q) hne
    obtain ⟨t1, us1, rfl, r1⟩ := r.popInt
    obtain ⟨t2, us2, rfl, r2⟩ := r1.popInt
    obtain ⟨t3, us3, rfl, r3⟩ := r2.popInt
    obtain ⟨t4, us4, rfl, r4⟩ := r3.popInt
    obtain ⟨t5, us5, rfl, r5⟩ := r4.popInt
    induction q using List.casesOn with
    | nil =>
      obtain rfl := r5.isNil
      exact wpAny_mono (order_make ok S (.cons (.int _ _) (.cons (.int _ _) (.cons (.int _ _) (.cons (.int _ _) (.cons (.int _ _) (.cons (.int 0 338) .nil)))))) fun s x X => bind96_6 _ _ _ _ _ _ _ s X) (fun v s' q => ⟨_, rfl, q.1, q.2⟩) fun _ _ q => q
    | cons v q =>
      obtain ⟨m, rfl⟩ := onInt_is (v := v) hne
      obtain rfl := onNil_is (l := q) hne
      obtain ⟨t6, us6, rfl, r6⟩ := r5.popInt
      obtain rfl := r6.isNil
      exact wpAny_mono (order_make ok S (.cons (.int _ _) (.cons (.int _ _) (.cons (.int _ _) (.cons (.int _ _) (.cons (.int _ _) (.cons (.int _ _) .nil)))))) fun s x X => bind96_7 _ _ _ _ _ _ _ _ s X) (fun v s' q => ⟨_, rfl, q.1, q.2⟩) fun _ _ q => q
end
end
section
open PySem.Builtin PySem.Builtin.ObjectAttr
theorem k_e_sets (P : Params) : Sets (K P) 52 (cdOf ob_52) where
  cls := by kernel_rfl
  ne := by kernel_rfl
  obj := by kernel_rfl
  pass := fun self => by
    show refuseLoop self "__setattr__" [.ref 52, .ref 39, .type "Exception", .type "BaseException", .type "object"] = _
    rw [refuseLoop_ref, refuseLoop_ref]
    exact PySem.F.store_Exception.passes self
  dict := by kernel_rfl
  sa := by kernel_rfl
theorem k_e_what (P : Params) : takerIn (K P) 52 "what" = some none := by kernel_rfl
theorem k_e_at (P : Params) : takerIn (K P) 52 "at" = some none := by kernel_rfl
theorem k_e_init (P : Params) : findIn (K P) (.ref 52) "__init__" = some (some (.ref 29)) := by kernel_rfl
theorem k_e_fn (P : Params) : typeIn (K P) (.ref 29) = some (.type "function") := by kernel_rfl
theorem k_e_lk (P : Params) : (K P).lookup 52 = some ob_52 := by kernel_rfl
noncomputable abbrev ebm : List Value := [.ref 39, .type "Exception", .type "BaseException", .type "object"]
noncomputable abbrev ExC (nm q : Str) (k0 k1 k2 k3 k5 : Option Value) : Obj := excClassObj nm q 52 51 [.ref 39] ebm true [] [] false none none k0 k1 k2 k3 k5 "Exception.__new__"
theorem k_e_obj : ∃ nm q k0 k1 k2 k3 k5, ob_52 = ExC nm q k0 k1 k2 k3 k5 := ⟨_, _, _, _, _, _, _, rfl⟩
section
variable {prog : Program} {w : World} {A : Around} {E : Value -> Shared -> Prop} {h : Heap} {g : Array GenState} {d : Drawn} {t : Nat} {os : OsState}
variable {nm q : Str} {k0 k1 k2 k3 k5 : Option Value}
theorem ce_check_new {M : Model} {rest : List Value} {Q : Unit -> Shared -> Prop} (hC : h.get? 52 = some (ExC nm q k0 k1 k2 k3 k5)) (hq : Q () ⟨h, g, d, t, os⟩) :
    wpAny M A (checkBuiltinCall "Exception.__new__" ⟨.ref 52 :: rest, []⟩) Q E ⟨h, g, d, t, os⟩ := by
  have F := PySem.F.excBase_Exception
  have hcont : (Value.ref 52 :: ebm).contains (.type "Exception") = true := by decide
  have hstar := F.noStar
  simp only [checkBuiltinCall, F.newKind, F.newSplit, F.newRow]
  repeat (first | refine wpAny_loadPart_at hC ?_ | (refine wpAny_isSubtype_exc hC ?_; rw [hcont]) | refine wpAny_staticBase_exc hC ?_ | refine wpAny_madeBy_exc hC ?_ | simp only [bne_self_eq_false, Bool.false_eq_true, if_false] | wp_step)
  exact hq
theorem ce_new {R : Result -> Shared -> Prop} {rest : List Value} (hC : h.get? 52 = some (ExC nm q k0 k1 k2 k3 k5))
    (hq : R (.ok (.ret (.ref (h.objs.size + 1)))) ⟨(h.push { cls := .type "tuple", data := .seq rest.toArray }).push
      { cls := .ref 52, data := .fields #[.ref h.objs.size, .none, .none, .none, .bool false, .none] }, g, d, t, os⟩) (hrest : rest.length <= sizeLine := by size_fits) :
    codeAny (model prog w) A (.builtin "Exception.__new__" ⟨.ref 52 :: rest, []⟩) R ⟨h, g, d, t, os⟩ := by
  have F := PySem.F.excBase_Exception
  have hends := F.ends
  have hcB : (Value.ref 52 :: ebm).contains (.type "Exception") = true := by decide
  have hcA : (Value.ref 52 :: ebm).contains (.type "AttributeError") = false := by decide
  have hcN : (Value.ref 52 :: ebm).contains (.type "NameError") = false := by decide
  refine codeAny_builtinAt F.entry ?_
  unfold Builtin.«BaseException.__new__»
  refine PySem.wpAt_bind ?_
  show PySem.wpAt _ _ _ (stack >>= _) _ _ _
  refine PySem.wpAt_bind (PySem.wpAt_stack fun p below => PySem.wpAt_of_wpAny ?_)
  wp_walk
  refine PySem.wpAt_of_wpAny ?_
  rw [F.owner]
  repeat (first | with_reducible refine wpAny_madeHere_exc F.canon hC ?_ | with_reducible refine wpAny_loadPart_at hC ?_ | (with_reducible refine wpAny_isSubtype_exc hC ?_; first | rw [hcB] | rw [hcA] | rw [hcN]) | wp_step)
  show R _ _
  rw [Heap.size_push]
  exact hq
theorem ce_check_init {M : Model} {e : Addr} {oe : Obj} {rest : List Value} {Q : Unit -> Shared -> Prop}
    (hC : h.get? 52 = some (ExC nm q k0 k1 k2 k3 k5)) (he : h.get? e = some oe) (hcls : oe.cls = .ref 52) (hq : Q () ⟨h, g, d, t, os⟩) :
    wpAny M A (checkBuiltinCall "Exception.__init__" ⟨.ref e :: rest, []⟩) Q E ⟨h, g, d, t, os⟩ := by
  have F := PySem.F.excBase_Exception
  have hcB : (Value.ref 52 :: ebm).contains (.type "Exception") = true := by decide
  have hshort := F.noStar
  simp only [checkBuiltinCall, F.initKind, F.initSplit, F.initRow]
  repeat (first | (with_reducible refine wpAny_loadPart_at he ?_; rw [hcls]) | with_reducible refine wpAny_loadPart_at hC ?_ | (with_reducible refine wpAny_isSubtype_exc hC ?_; rw [hcB]) | wp_step)
  refine wpAny_onRaise ?_
  rw [show ∀ (a b : String) (n : Nat), Bind.check ⟨.positional, "*", "Exception", .self, [⟨"args", .varPos, false⟩]⟩ a b n (List.map (fun x => x.fst) ({ pos := Value.ref e :: rest } : Args).kw) = pure () from
    fun a b n => check_star_args _ _ _ _ _ _]
  exact wpAny_pure hq
noncomputable abbrev excObj0 (t0 : Addr) : Obj := { cls := .ref 52, data := .fields #[.ref t0, .none, .none, .none, .bool false, .none] }
noncomputable abbrev tupObj (vs : List Value) : Obj := { cls := .type "tuple", data := .seq vs.toArray }
theorem ce_make {P : Params} {rest : List Value} {Q : Value -> Shared -> Prop} (X : (K P).In h)
    (hq : wpAny (model prog w) (A.under (.builtin "type.__call__" ⟨.ref 52 :: rest, []⟩)) (call (.ref 29) (.ref (h.objs.size + 1) :: rest)) (fun r s' => r = .none /\ Q (.ref (h.objs.size + 1)) s') E ⟨(h.push (tupObj rest)).push (excObj0 h.objs.size), g, d, t, os⟩) (hrest : rest.length <= sizeLine) :
    wpAny (model prog w) A (call (.ref 52) rest) Q E ⟨h, g, d, t, os⟩ := by
  obtain ⟨nm, q, k0, k1, k2, k3, k5, eo⟩ := k_e_obj
  have hC : h.get? 52 = some (ExC nm q k0 k1 k2 k3 k5) := by rw [<- eo]; exact X _ _ (k_e_lk P)
  have F := PySem.F.excBase_Exception
  have f1 := tc_lookup
  have f2 := tc_bind (.ref 52)
  have hT : (⟨h, g, d, t, os⟩ : Shared).TypeIs (.ref 52) "type" := ⟨_, hC, rfl⟩
  refine wpAny_call (codeAny_of_tree ?_)
  show wpAny _ _ (callAny (.ref 52) _) _ _ _
  repeat (any_goals (first | assumption | with_reducible refine wpAny_loadPart_at hC ?_ | wp_step))
  refine ⟨rfl, ?_⟩
  refine codeAny_call_builtin_at (Code.quiet_builtin _ (by decide +kernel)) entry_typeCall (wpAny_check_type_call_sub hC ?_)
  repeat (first | with_reducible refine wpAny_loadPart_at hC ?_ | with_reducible refine wpAny_madeBy_exc hC ?_ | wp_step)
  refine codeAny_call_builtin_code (Code.quiet_builtin _ F.quiet) (ce_check_new hC ?_)
  refine ce_new hC ?_ hrest
  show wpAny _ _ _ _ _ _
  have k : ∀ b o, h.get? b = some o -> ((h.push (tupObj rest)).push (excObj0 h.objs.size)).get? b = some o := fun b o e => Heap.get?_push_of_some _ (Heap.get?_push_of_some _ e)
  have hC1 := k _ _ hC
  have X1 : (K P).In ((h.push (tupObj rest)).push (excObj0 h.objs.size)) := fun a o e => k _ _ (X a o e)
  have hget : ((h.push (tupObj rest)).push (excObj0 h.objs.size)).get? (h.objs.size + 1) = some (excObj0 h.objs.size) := by heap_get
  have hcC : (Value.ref 52 :: ebm).contains (.ref 52) = true := by decide
  unfold isInstance
  repeat (first | with_reducible refine wpAny_loadPart_at hget ?_ | wp_step)
  show wpAny _ _ (isSubtype (.ref 52) (.ref 52)) _ _ _
  refine wpAny_isSubtype_exc hC1 ?_
  rw [hcC]
  repeat (first | with_reducible refine wpAny_loadPart_at hget ?_ | wp_step)
  show wpAny _ _ (typeLookup (.ref 52) _) _ _ _
  refine (looks_findIn X1 (k_e_init P)).here ?_
  refine wpAny_holding (wpAny_bind ((bind_fn X1 _ (k_e_fn P)).here ?_))
  refine wpAny_bind (wpAny_mono hq (fun r s' hr => ?_) fun _ _ x => x)
  obtain ⟨rfl, hQ⟩ := hr
  wp_walk
  exact hQ
end
end
section
open PySem.Builtin PySem.Builtin.ObjectAttr
theorem type_exc : typeOf (.type "Exception") = pure (.type "type") := by kernel_rfl
theorem k_fc_init (P : Params) : findCls (K P) (.type "Exception") (.type "type") "__init__" = some (.val (.builtin "Exception.__init__")) := by kernel_rfl
section
variable {prog : Program} {w : World} {A : Around} {E : Value -> Shared -> Prop} {s : Shared}
theorem gm_exc_init {P : Params} {pl : Sem Bool} {Q : Value × List Value -> Shared -> Prop} (X : (K P).In s.heap) (h : Q (.builtin "Exception.__init__", []) { s with toks := s.toks + 1 }) :
    wpAny (model prog w) A (getMethod (.type "Exception") "__init__" pl) Q E s := by
  have hstub : opaqueClassAbove (.type "Exception") = pure none := by unfold opaqueClassAbove; dsimp only; rw [show Manifest.isStub "Exception" = false from by kernel_rfl]; rfl
  have L0 : Looks (model prog w) s.heap (typeOf (.type "Exception")) (.type "type") := Looks.of_pure type_exc
  have hg : findIn (K P) (.type "type") "__getattribute__" = some (some (.builtin "type.__getattribute__")) := type_tga
  unfold getMethod specialOf
  refine wpAny_bind (wpAny_bind (L0.here ((looks_findIn X hg).here ?_)))
  dsimp only
  rw [if_pos canon_tga]
  refine wpAny_bind (wpAny_mono (Q := fun v => Q (v, [])) (E := E) ?_ (fun _ _ z => wpAny_pure z) fun _ _ z => z)
  have LO : Looks (model prog w) s.heap (opaqueClassAbove (.type "Exception")) none := Looks.of_pure hstub
  refine cls_open X LO L0 hg (looks_hook X (r := none) (by rfl)) (by show subIn (K P) _ _ = _; rfl) (k_fc_init P)
    (wpAny_pure (by show wpAny _ _ (handedOut _) _ _ _; rw [handedOut_of (by kernel_rfl)]; exact wpAny_pure h))
end
section
variable {prog : Program} {w : World} {A : Around} {E : Value -> Shared -> Prop} {h : Heap} {g : Array GenState} {d : Drawn} {t : Nat} {os : OsState}
theorem einit_call {P : Params} (X : (K P).In h) {e t0 : Addr} {v : Value} {Q : Value -> Shared -> Prop} (hget : h.get? e = some (excObj0 t0))
    (hq : ∀ h', h'.get? e = some (excObj0 h.objs.size) -> (∀ b o, b ≠ e -> h.get? b = some o -> h'.get? b = some o) -> h.objs.size <= h'.objs.size -> Q .none ⟨h', g, d, t, os⟩) :
    wpAny (model prog w) A (call (.builtin "Exception.__init__") [.ref e, v]) Q E ⟨h, g, d, t, os⟩ := by
  obtain ⟨nm, q, k0, k1, k2, k3, k5, eo⟩ := k_e_obj
  have hC : h.get? 52 = some (ExC nm q k0 k1 k2 k3 k5) := by rw [<- eo]; exact X _ _ (k_e_lk P)
  have F := PySem.F.excBase_Exception
  refine wpAny_call (codeAny_call_builtin F.init.plain F.initEntry (ce_check_init hC hget rfl ?_))
  have hget' : (h.push { cls := .type "tuple", data := .seq [v].toArray }).get? e = some (excObj0 t0) := Heap.get?_push_of_some _ hget
  wp_walk
  refine hq _ ?_ (fun b o hb e1 => ?_) ?_
  · rw [Heap.get?_update_self _ (Heap.get?_push_of_some _ hget) rfl]
    rfl
  · rw [Heap.get?_update_other _ _ (Ne.symm hb)]
    exact Heap.get?_push_of_some _ e1
  · simp only [Heap.size_update, Heap.size_push]; omega
end
end
section
open PySem.Builtin PySem.Builtin.ObjectAttr
noncomputable abbrev eiNames : List Str := ["self", "what", "at"]
noncomputable abbrev fd29 : FuncData := fd_29
theorem sc29 : scopeOK fd29.scope eiNames = true := by kernel_rfl
theorem sc29E : fd29.scope.names.lookup ("Exception" : Str) = some .globalImplicit := by kernel_rfl
theorem bind29_3 (P : Params) (a b c : Value) (s : Shared) (X : (K P).In s.heap) : BindsTo s fd29 ⟨[a, b, c], []⟩ (eiNames.zip [a, b, c]) :=
  binds_K (T := 22) (o := ob_22) (items := #[.none]) (n := 0) X rfl (by kernel_rfl) rfl rfl (by kernel_rfl)
theorem bind29_2 (P : Params) (a b : Value) (s : Shared) (X : (K P).In s.heap) : BindsTo s fd29 ⟨[a, b], []⟩ (eiNames.zip [a, b, .none]) :=
  binds_K (T := 22) (o := ob_22) (items := #[.none]) (n := 0) X rfl (by kernel_rfl) rfl rfl (by kernel_rfl)
section
variable {w : World} {hB : Heap} {mg mb : Str -> Option Value} {n : Nat} {A : Around} {X : Addr -> Prop} {s s' : Shared} {E : Value -> Shared -> Prop} {sc : Scope} {σ : Vars} {env : Env} {L old : Addr}
theorem D29 : DefIn (WW w hB mg mb) 29 fd29 (fBody d_GateError_init.1) where
  lk := by show (K w.params).lookup 29 = _; kernel_rfl
  code := by show codeIs (K w.params) _ _ = true; kernel_rfl
  gl := rfl
  cl := rfl
  bi := rfl
  body := rfl
  lam := fun q => by
    have : fd29.scope.names.lookup ("_law_heard" : Str) = none := by kernel_rfl
    rw [this] at q; cases q
theorem exc_body (ok : (WW w hB mg mb).Ok) {e t0 N : Addr} {wt : Str} {pa : PV} {Q : Flow -> Shared -> Prop}
    (F : Fra (WW w hB mg mb) sc [("at", pa), ("what", .str wt), ("self", .opq e)] X env L old s.heap) (hsc : sc.names.lookup ("Exception" : Str) = some .globalImplicit) (GE : GlobAt (WW w hB mg mb) "Exception" (.type "Exception"))
    (B : Base (WW w hB mg mb) s.heap) (he : s.heap.get? e = some (excObj0 t0)) (hN : ∀ a, N <= a -> X a) (e1 : N <= e) (hlo : hB.objs.size <= N) (hs : N <= s.heap.objs.size) (hL : N <= L)
    (fin : ∀ s' dx vs hs1 hs2 t1 t2 tw va, Step (WW w hB mg mb) (fun a => N <= a) s s' -> s'.heap.get? e = some { cls := .ref 52, dict := some dx, data := .fields vs } -> (vs.size = 6 /\ vs[2]? = some .none) -> vs[1]? = some .none ->
      s'.heap.get? dx = some { cls := .type "dict", data := .dict #[⟨hs1, .str "what" t1, .str wt tw⟩, ⟨hs2, .str "at" t2, va⟩] 2 } -> N <= dx -> Rep (WW w hB mg mb) s'.heap X va pa -> Q .next s') :
    wpAny (model (WW w hB mg mb).prog w) A (execs (fBody d_GateError_init.1) env) Q E s := by
  have go : ∀ (s1 : Shared) (h' : Heap) (tk : Nat) (a : Addr) (o : Obj), Base (WW w hB mg mb) s1.heap -> Fra (WW w hB mg mb) sc [("at", pa), ("what", .str wt), ("self", .opq e)] X env L old s1.heap -> s1.heap.get? a = some o -> N <= a -> o.cls ≠ .none -> o.cls ≠ .type "frame" -> o.cls ≠ .type "code" -> (∀ v, o.data ≠ .cell v) ->
      (∀ b o, b ≠ a -> s1.heap.get? b = some o -> h'.get? b = some o) -> s1.heap.objs.size <= h'.objs.size ->
      Step (WW w hB mg mb) (fun b => b = a) s1 { s1 with heap := h', toks := tk } /\ Fra (WW w hB mg mb) sc [("at", pa), ("what", .str wt), ("self", .opq e)] X env L old h' := by
    intro s1 h' tk a o B1 F1 ho ha c1 c2 c3 c4 k hs
    have t : Step (WW w hB mg mb) (fun b => b = a) s1 { s1 with heap := h', toks := tk } := Step.zs (Z := fun b => b = a) B1 (fun b q => by subst q; exact ⟨Nat.le_trans hlo ha, o, ho, c4, c1, c2, c3⟩) k hs
    refine ⟨t, F1.step t (fun b q => ?_) fun v p r => r.keeps t.keeps fun b q => by subst q; exact hN _ ha⟩
    subst q
    refine ⟨fun q => ?_, fun v q => ?_⟩
    · obtain ⟨oL, es', ep, e, hc, _⟩ := F1.obj
      rw [<- q, ho] at e; cases e; exact c2 hc
    · obtain ⟨oc, e, hc⟩ := q
      rw [ho] at e; cases e; exact c4 _ hc
  have cE : (Value.ref 52 : Value) ≠ .none /\ (Value.ref 52 : Value) ≠ .type "frame" /\ (Value.ref 52 : Value) ≠ .type "code" := ⟨ref_nn, ref_nt, ref_nt⟩
  have cD : (Value.type "dict" : Value) ≠ .none /\ (Value.type "dict" : Value) ≠ .type "frame" /\ (Value.type "dict" : Value) ≠ .type "code" := by decide
  delta d_GateError_init fBody
  dsimp only
  refine wpAny_execs_cons (wpAny_Expr_any (meth_any (by rfl) (by rfl) (by rfl) (by decide) (wpAny_Name (loadName_glob ok B F.envOK hsc GE ?_) (by decide))) ?_ (by rfl))
  · refine gm_exc_init (ok.inK B) ?_
    refine callWith_fn (P := fun _ => True) (by rfl) keeper_builtin (wpAny_items_cons (var_stmt (s := { s with toks := s.toks + 1 }) F (by rfl) (by decide) fun v0 r0 => wpAny_items_cons (var_stmt (s := { s with toks := s.toks + 1 }) F (by rfl) (by decide) fun v1 r1 => wpAny_items_nil ⟨trivial, ?_⟩) (by rfl)) (by rfl))
    obtain rfl := r0.isOpq
    refine einit_call (ok.inK B) he fun h1 he1 k1 s1 => ?_
    obtain ⟨t1, F1⟩ := go s h1 (s.toks + 1) e _ B F he e1 cE.1 cE.2.1 cE.2.2 nc_fields k1 s1
    refine wpAny_execs_cons (set_stmt (s := { s with heap := h1, toks := s.toks + 1 }) F1 (by rfl) (by rfl) (by decide) fun v2 r2 => ?_)
    refine sa_make (k_e_sets _) (ok.inK t1.base) ⟨he1, rfl, rfl, trivial⟩ rfl (fun _ => rfl) (k_e_what _) fun h2 hs2 tk2 hd2 he2 k2 s2 => ?_
    obtain ⟨t2, F2⟩ := go _ h2 (s.toks + 1 + 2) e _ t1.base F1 he1 e1 cE.1 cE.2.1 cE.2.2 nc_fields k2 (by omega)
    obtain ⟨tw, rfl⟩ := r2.isStr
    refine wpAny_execs_cons (set_stmt (s := { s with heap := h2, toks := s.toks + 1 + 2 }) F2 (by rfl) (by rfl) (by decide) fun v3 r3 => ?_)
    have hdN : N <= h1.objs.size := Nat.le_trans hs s1
    have hne : e ≠ h1.objs.size := Nat.ne_of_lt (Heap.lt_size he1)
    refine sa_dict (k_e_sets _) (ok.inK t2.base) ⟨he2, rfl, rfl, hd2⟩ rfl (k_e_at _) (by rfl) (by rfl) (by simp) fun h3 hs3 tk3 hd3 e3 => ?_
    obtain ⟨t3, F3⟩ := go _ h3 (s.toks + 1 + 2 + 2) h1.objs.size _ t2.base F2 hd2 hdN cD.1 cD.2.1 cD.2.2 nc_dict (fun b o hb e => e3.extBut _ _ hb e) (Nat.le_of_eq e3.1.symm)
    refine wpAny_execs_nil (fin _ h1.objs.size _ _ _ _ _ _ v3 ?_ (e3.extBut _ _ hne he2) ⟨rfl, rfl⟩ rfl hd3 hdN (r3.keeps t3.keeps fun b q => q ▸ hN _ hdN))
    exact (t1.mono fun a _ q => q ▸ e1).trans ((t2.mono fun a _ q => q ▸ e1).trans (t3.mono fun a _ q => q ▸ hdN))
  · unfold interactive
    rw [F.scope, F.kind]; rfl
theorem exc_make (ok : (WW w hB mg mb).Ok) (GE : GlobAt (WW w hB mg mb) "Exception" (.type "Exception")) (S : Sit0 (WW w hB mg mb) (n + 2) A s) (priv : ∀ a, X a -> a < s.heap.objs.size) {vals all : List Value} {wt : Str} {pa : PV} (hl : vals.length <= 10)
    (hr : Reps (WW w hB mg mb) s.heap X all [.str wt, pa]) (hb : ∀ s x, (K w.params).In s.heap -> BindsTo s fd29 ⟨.ref x :: vals, []⟩ (eiNames.zip (.ref x :: all))) :
    wpAny (model (WW w hB mg mb).prog w) A (call (.ref 52) vals) (fun v s' => Exc (WW w hB mg mb) s'.heap X s.heap.objs.size (fun o => o = none) v pa /\ Step (WW w hB mg mb) NoA s s') E s := by
  obtain ⟨hh, g, dr, tk, os⟩ := s
  have XK : (K w.params).In hh := ok.inK S.base
  refine ce_make XK ?_ (by rw [sizeLine_eq]; omega)
  have t1 : Step (WW w hB mg mb) NoA ⟨hh, g, dr, tk, os⟩ ⟨hh.push (tupObj vals), g, dr, tk, os⟩ := Step.push S.base
  have t2 : Step (WW w hB mg mb) NoA ⟨hh.push (tupObj vals), g, dr, tk, os⟩ ⟨(hh.push (tupObj vals)).push (excObj0 hh.objs.size), g, dr, tk, os⟩ := Step.push t1.base
  have t12 := t1.trans t2
  have hx0 : ((hh.push (tupObj vals)).push (excObj0 hh.objs.size)).get? (hh.objs.size + 1) = some (excObj0 hh.objs.size) := by
    have := Heap.get?_push_size (hh.push (tupObj vals)) (o := excObj0 hh.objs.size) rfl
    rw [Heap.size_push] at this
    exact this
  have hsz : ((hh.push (tupObj vals)).push (excObj0 hh.objs.size)).objs.size = hh.objs.size + 2 := by simp only [Heap.size_push]
  obtain ⟨X', hX'⟩ : ∃ X' : Addr -> Prop, X' = fun a => X a \/ hh.objs.size <= a := ⟨_, rfl⟩
  have r1 : Reps (WW w hB mg mb) ((hh.push (tupObj vals)).push (excObj0 hh.objs.size)) X' (.ref (hh.objs.size + 1) :: all) [.opq (hh.objs.size + 1), .str wt, pa] := by
    refine .cons (.opq _) ?_
    exact (Reps.widen (fun a ha q => by rw [hX'] at q; exact q.elim id fun z => absurd ha (Nat.not_lt.mpr z)) hr).keeps t12.keeps fun a f => f.elim
  refine wpAny_call (def_in ok D29 sc29 ((S.step t12).under (rest := vals)) (hb _ _ (ok.inK t12.base)) r1 fun env s3 t3 S3 T3 F3 => ?_)
  have hlo : hh.objs.size <= ((hh.push (tupObj vals)).push (excObj0 hh.objs.size)).objs.size := by rw [hsz]; omega
  have he3 : s3.heap.get? (hh.objs.size + 1) = some (excObj0 hh.objs.size) := t3.keeps.get hx0 (fun q => Nat.lt_irrefl _ (Nat.lt_of_lt_of_le (Heap.lt_size hx0) q)) nofun nofun
  refine exc_body ok F3 sc29E GE S3.base he3 (fun a q => by rw [hX']; exact .inr q) (Nat.le_succ _) S.base.size (Nat.le_trans hlo t3.size) hlo fun s4 dx vs hs1 hs2 t1' t2' tw va t4 e4 v6 v1 d4 hdN r4 => ?_
  refine ⟨rfl, ⟨hh.objs.size + 1, dx, vs, wt, t1', t2', tw, hs1, hs2, 2, va, _, _, rfl, Nat.le_succ _, hdN, e4, ⟨v6.1, fun _ => v6.2⟩, d4, ?_, .inl ⟨v1, rfl⟩⟩, ?_⟩
  · exact r4.widen fun a _ q => by rw [hX']; exact .inl q
  · exact (t12.no.trans ((t3.mono fun a _ q => Nat.le_trans hlo q).trans t4)).mono fun a ha q => absurd ha (Nat.not_lt.mpr q)
theorem exc_ok (ok : (WW w hB mg mb).Ok) (GE : GlobAt (WW w hB mg mb) "Exception" (.type "Exception")) {vs : List Value} {ps : List PV} {pa : PV} (S : Sit0 (WW w hB mg mb) (n + 2) A s) (priv : ∀ a, X a -> a < s.heap.objs.size) (r : Reps (WW w hB mg mb) s.heap X vs ps) (he : excP ps = .err pa) :
    wpAny (model (WW w hB mg mb).prog w) A (call (.ref 52) vs) (fun v s' => Exc (WW w hB mg mb) s'.heap X s.heap.objs.size (fun o => o = none) v pa /\ Step (WW w hB mg mb) NoA s s') E s := by
  have hne : excP ps ≠ .stuck := by rw [he]; exact nofun
  induction ps using List.casesOn with
  | nil => exact (hne rfl).elim
  | cons p q =>
    obtain ⟨x, rfl⟩ := onStr_is (v := p) hne
    obtain ⟨v1, us, rfl, r1, rr⟩ := r.isCons
    induction q using List.casesOn with
    | nil =>
      obtain rfl := rr.isNil
      obtain rfl : PV.none = pa := Out.err.inj he
      exact exc_make ok GE S priv (by simp) (.cons r1 (.cons .none .nil)) fun s x X => bind29_2 _ _ _ s X
    | cons b q =>
      obtain rfl := onNil_is (l := q) (x := .err b) hne
      obtain rfl : b = pa := Out.err.inj he
      obtain ⟨v2, rfl, r2⟩ := rr.is1
      exact exc_make ok GE S priv (by simp) (.cons r1 (.cons r2 .nil)) fun s x X => bind29_3 _ _ _ _ s X
end
end
section
open PySem.Builtin PySem.Builtin.ObjectAttr
noncomputable abbrev excDict (hs1 hs2 : Int) (t1 t2 tw : Tok) (wt : Str) (va : Value) (n : Nat) (sld : Array (Option Value)) : Obj := { cls := .type "dict", data := .dict #[⟨hs1, .str "what" t1, .str wt tw⟩, ⟨hs2, .str "at" t2, va⟩] n, slots := sld }
theorem k_x_at (P : Params) (hs1 hs2 : Int) (t1 t2 tw : Tok) (wt : Str) (va : Value) (n : Nat) (sld : Array (Option Value)) : findObj (K P) 52 (some (excDict hs1 hs2 t1 t2 tw wt va n sld)) "at" = some (.value va) := by kernel_rfl
theorem k_x_what (P : Params) (hs1 hs2 : Int) (t1 t2 tw : Tok) (wt : Str) (va : Value) (n : Nat) (sld : Array (Option Value)) : findObj (K P) 52 (some (excDict hs1 hs2 t1 t2 tw wt va n sld)) "what" = some (.value (.str wt tw)) := by kernel_rfl
theorem k_x_ga (P : Params) : findIn (K P) (.ref 52) "__getattribute__" = some (some (.builtin "BaseException.__getattribute__")) := by kernel_rfl
theorem k_x_hook (P : Params) : (if onTheHeap (.ref 52) then findIn (K P) (.ref 52) "__getattr__" else some none) = some none := by kernel_rfl
theorem k_x_base (P : Params) : mroIn (K P) 52 (.type "BaseException") = some true := by kernel_rfl
theorem k_x_typ (P : Params) : typeIn (K P) (.ref 52) = some (.type "type") := by kernel_rfl
section
variable {prog : Program} {w : World} {A : Around} {E : Value -> Shared -> Prop} {s : Shared}
theorem exc_get {P : Params} {x : Addr} {ox : Obj} {od : Option Obj} {name : Str} {v : Value} {expr : Bool} {Q : Value -> Shared -> Prop} (X : (K P).In s.heap) (I : InstAt s.heap x ox 52 od)
    (hf : findObj (K P) 52 od name = some (.value v)) (hh : handedIn v = true) (h : Q v { s with toks := s.toks + 1 }) : wpAny (model prog w) A (getAttr (.ref x) name expr) Q E s := by
  have ga := PySem.F.attrBase_Exception.ga
  have hg := k_x_ga P
  unfold getAttr getAttrBy
  refine wpAny_bind (wpAny_mkText (wpAny_holding (wpAny_bind (I.type _ _ _ _ (fun _ _ e => e) (wpAny_bind (looks_findIn X hg _ _ _ _ (fun _ _ e => e) ?_))))))
  dsimp only
  rw [show (onTheHeap (.ref 52) && Value.builtin "BaseException.__getattribute__" == Value.builtin "object.__getattribute__") = false from by decide +kernel, if_neg (by decide)]
  unfold getAttrByItsOwn
  refine wpAny_bind (looks_hook X (k_x_hook P) _ _ _ _ (fun _ _ e => e) (wpAny_bind (wpAny_attempt (wpAny_holding ?_))))
  unfold callGetattribute
  rw [show (expr && onTheHeap (Value.builtin "BaseException.__getattribute__")) = false from Bool.and_false _, if_neg (by decide)]
  unfold boundAndCalled
  rw [ga.bind]
  refine wpAny_bind (wpAny_pure ?_)
  show wpAny _ _ (call (.builtin "BaseException.__getattribute__") [.ref x, .str name s.toks]) _ _ _
  refine wpAny_call ?_
  refine codeAny_call_builtin ga.plain PySem.F.entry_bexc_ga ?_
  refine @check_slot (model prog w) _ _ { s with toks := s.toks + 1 } "BaseException.__getattribute__" "BaseException" "__getattribute__" (.ref x) [.str name s.toks] [] _ (by decide +kernel) (by decide +kernel) (I.type.andThen (looks_mroIn X (k_x_base P))) (PySem.F.args_bexc_ga (.ref x) (.str name s.toks)) ?_
  refine wpAny_bind (wpAny_pure (wpAny_bind (wpAny_pure (wpAny_bind (I.type _ _ _ _ (fun _ _ e => e) (wpAny_bind (looks_find X I hf _ _ _ _ (fun _ _ e => e) ?_)))))))
  refine wpAny_pure ?_
  show wpAny _ _ (handedOut v) _ _ _
  rw [handedOut_of hh]; exact wpAny_pure h
end
section
variable {w : World} {hB : Heap} {mg mb : Str -> Option Value} {n : Nat} {A : Around} {X : Addr -> Prop} {s s' : Shared} {E : Value -> Shared -> Prop} {old : Nat} {fl : Option Value -> Prop}
theorem rep_handed {W : Wd} {h : Heap} {v : Value} {p : PV} (r : Rep W h X v p) : handedIn v = true :=
  r.casesOn (motive_1 := fun v _ _ => handedIn v = true) rfl (fun _ => rfl) (fun _ _ => rfl) (fun _ _ => rfl) (fun _ _ => rfl) (fun _ _ _ _ _ _ => rfl) (fun _ _ _ _ _ => rfl) (fun _ _ _ _ => rfl) fun _ => rfl
theorem exc_at (ok : (WW w hB mg mb).Ok) (B : Base (WW w hB mg mb) s.heap) {e : Value} {pa : PV} (hx : Exc (WW w hB mg mb) s.heap X old fl e pa) {expr : Bool} {Q : Value -> Shared -> Prop}
    (h : ∀ v, Rep (WW w hB mg mb) s.heap X v pa -> Q v { s with toks := s.toks + 1 }) : wpAny (model (WW w hB mg mb).prog w) A (getAttr e "at" expr) Q E s := by
  obtain ⟨ea, dx, vs, what, t1, t2, tw, hs1, hs2, n, va, sl, sld, rfl, q2, q3, q4, q5, q6, q7, q8⟩ := hx
  exact exc_get (ok.inK B) ⟨q4, rfl, rfl, q6⟩ (k_x_at _ _ _ _ _ _ _ _ _ _) (rep_handed q7) (h va q7)
theorem exc_what (ok : (WW w hB mg mb).Ok) (B : Base (WW w hB mg mb) s.heap) {e : Value} {pa : PV} (hx : Exc (WW w hB mg mb) s.heap X old fl e pa) {expr : Bool} {Q : Value -> Shared -> Prop}
    (h : ∀ wt tw, Q (.str wt tw) { s with toks := s.toks + 1 }) : wpAny (model (WW w hB mg mb).prog w) A (getAttr e "what" expr) Q E s := by
  obtain ⟨ea, dx, vs, what, t1, t2, tw, hs1, hs2, n, va, sl, sld, rfl, q2, q3, q4, q5, q6, q7, q8⟩ := hx
  exact exc_get (ok.inK B) ⟨q4, rfl, rfl, q6⟩ (k_x_what _ _ _ _ _ _ _ _ _ _) rfl (h what tw)
end
end
noncomputable def BindOK (fd : FuncData) (ps : List Str) : Prop := ∀ vals : List Value, vals.length = ps.length -> bindArgs fd ⟨vals, []⟩ = pure (ps.zip vals)
theorem of_nil {P : List Value -> Prop} (h : P []) (l : List Value) (e : l.length = 0) : P l := List.eq_nil_of_length_eq_zero e ▸ h
theorem of_cons {P : List Value -> Prop} {n : Nat} (h : ∀ a r, r.length = n -> P (a :: r)) (l : List Value) (e : l.length = n + 1) : P l := by
  induction l using List.casesOn with
  | nil => exact nomatch e
  | cons a r => exact h a r (Nat.succ.inj e)
section
variable {fd : FuncData} {p q r s t u : Str}
theorem bind0 (h : bindArgs fd ⟨[], []⟩ = pure []) : BindOK fd [] := of_nil h
theorem bind1 (h : ∀ a, bindArgs fd ⟨[a], []⟩ = pure [(p, a)]) : BindOK fd [p] := of_cons fun a => of_nil (P := fun l => bindArgs fd ⟨a :: l, []⟩ = pure ([p].zip (a :: l))) (h a)
theorem bind2 (h : ∀ a b, bindArgs fd ⟨[a, b], []⟩ = pure [(p, a), (q, b)]) : BindOK fd [p, q] := of_cons fun a => of_cons (P := fun l => bindArgs fd ⟨a :: l, []⟩ = pure ([p, q].zip (a :: l))) fun b => of_nil (P := fun l => bindArgs fd ⟨a :: b :: l, []⟩ = pure ([p, q].zip (a :: b :: l))) (h a b)
theorem bind3 (h : ∀ a b c, bindArgs fd ⟨[a, b, c], []⟩ = pure [(p, a), (q, b), (r, c)]) : BindOK fd [p, q, r] := of_cons fun a => of_cons (P := fun l => bindArgs fd ⟨a :: l, []⟩ = pure ([p, q, r].zip (a :: l))) fun b => of_cons (P := fun l => bindArgs fd ⟨a :: b :: l, []⟩ = pure ([p, q, r].zip (a :: b :: l))) fun c => of_nil (P := fun l => bindArgs fd ⟨a :: b :: c :: l, []⟩ = pure ([p, q, r].zip (a :: b :: c :: l))) (h a b c)
theorem bind4 (h : ∀ a b c d, bindArgs fd ⟨[a, b, c, d], []⟩ = pure [(p, a), (q, b), (r, c), (s, d)]) : BindOK fd [p, q, r, s] := of_cons fun a => of_cons (P := fun l => bindArgs fd ⟨a :: l, []⟩ = pure ([p, q, r, s].zip (a :: l))) fun b => of_cons (P := fun l => bindArgs fd ⟨a :: b :: l, []⟩ = pure ([p, q, r, s].zip (a :: b :: l))) fun c => of_cons (P := fun l => bindArgs fd ⟨a :: b :: c :: l, []⟩ = pure ([p, q, r, s].zip (a :: b :: c :: l))) fun d => of_nil (P := fun l => bindArgs fd ⟨a :: b :: c :: d :: l, []⟩ = pure ([p, q, r, s].zip (a :: b :: c :: d :: l))) (h a b c d)
theorem bind5 (h : ∀ a b c d e, bindArgs fd ⟨[a, b, c, d, e], []⟩ = pure [(p, a), (q, b), (r, c), (s, d), (t, e)]) : BindOK fd [p, q, r, s, t] := of_cons fun a => of_cons (P := fun l => bindArgs fd ⟨a :: l, []⟩ = pure ([p, q, r, s, t].zip (a :: l))) fun b => of_cons (P := fun l => bindArgs fd ⟨a :: b :: l, []⟩ = pure ([p, q, r, s, t].zip (a :: b :: l))) fun c => of_cons (P := fun l => bindArgs fd ⟨a :: b :: c :: l, []⟩ = pure ([p, q, r, s, t].zip (a :: b :: c :: l))) fun d => of_cons (P := fun l => bindArgs fd ⟨a :: b :: c :: d :: l, []⟩ = pure ([p, q, r, s, t].zip (a :: b :: c :: d :: l))) fun e => of_nil (P := fun l => bindArgs fd ⟨a :: b :: c :: d :: e :: l, []⟩ = pure ([p, q, r, s, t].zip (a :: b :: c :: d :: e :: l))) (h a b c d e)
end
section
variable {w : World} {hB : Heap} {mg mb : Str -> Option Value}
theorem lam_none {W : Wd} {fd : FuncData} (h : fd.scope.names.lookup ("_law_heard" : Str) = none) (q : fd.scope.names.lookup ("_law_heard" : Str) = some .globalImplicit) : ∃ c P, fd.code = .ref c /\ (c, P, fd.qualname ++ ".<locals>." ++ "<lambda>") ∈ W.tabs := by
  rw [h] at q; cases q
theorem defIn {a : Addr} {fd : FuncData} {b : List Stmt} (lk : (K w.params).lookup a = some { cls := .type "function", data := .func fd }) (code : codeIs (K w.params) fd.code fd.qualname = true) (r : fd.globals = mainGlobals /\ fd.closure = [] /\ fd.builtins = builtinsNs /\ fd.body = .stmts b) (h : fd.scope.names.lookup ("_law_heard" : Str) = none) : DefIn (WW w hB mg mb) a fd b :=
  ⟨lk, code, r.1, r.2.1, r.2.2.1, r.2.2.2, lam_none h⟩
theorem D_62 : DefIn (WW w hB mg mb) 62 fd_62 (fBody d_signed.1) := defIn (by kernel_rfl) (by kernel_rfl) ⟨rfl, rfl, rfl, rfl⟩ (by kernel_rfl)
theorem sc_62 : scopeOK fd_62.scope [("worth" : Str), ("size" : Str)] = true := by kernel_rfl
theorem kp_62 : keepIn (WW w hB mg mb).K (.ref 62) = true := by show keepIn (K w.params) _ = true; kernel_rfl
theorem D_69 : DefIn (WW w hB mg mb) 69 fd_69 (fBody d_fits_signed.1) := defIn (by kernel_rfl) (by kernel_rfl) ⟨rfl, rfl, rfl, rfl⟩ (by kernel_rfl)
theorem sc_69 : scopeOK fd_69.scope [("worth" : Str), ("size" : Str)] = true := by kernel_rfl
theorem kp_69 : keepIn (WW w hB mg mb).K (.ref 69) = true := by show keepIn (K w.params) _ = true; kernel_rfl
theorem bi_69 : BindOK fd_69 [("worth" : Str), ("size" : Str)] := bind2 fun a b => by kernel_rfl
theorem D_74 : DefIn (WW w hB mg mb) 74 fd_74 (fBody d_little.1) := defIn (by kernel_rfl) (by kernel_rfl) ⟨rfl, rfl, rfl, rfl⟩ (by kernel_rfl)
theorem sc_74 : scopeOK fd_74.scope [("worth" : Str), ("width" : Str)] = true := by kernel_rfl
theorem kp_74 : keepIn (WW w hB mg mb).K (.ref 74) = true := by show keepIn (K w.params) _ = true; kernel_rfl
theorem bi_74 : BindOK fd_74 [("worth" : Str), ("width" : Str)] := bind2 fun a b => by kernel_rfl
theorem D_81 : DefIn (WW w hB mg mb) 81 fd_81 (fBody d_from_little.1) := defIn (by kernel_rfl) (by kernel_rfl) ⟨rfl, rfl, rfl, rfl⟩ (by kernel_rfl)
theorem sc_81 : scopeOK fd_81.scope [("octets" : Str)] = true := by kernel_rfl
theorem kp_81 : keepIn (WW w hB mg mb).K (.ref 81) = true := by show keepIn (K w.params) _ = true; kernel_rfl
theorem bi_81 : BindOK fd_81 [("octets" : Str)] := bind1 fun a => by kernel_rfl
theorem D_103 : DefIn (WW w hB mg mb) 103 fd_103 (fBody d_Order_told.1) := defIn (by kernel_rfl) (by kernel_rfl) ⟨rfl, rfl, rfl, rfl⟩ (by kernel_rfl)
theorem sc_103 : scopeOK fd_103.scope [("self" : Str)] = true := by kernel_rfl
theorem kp_103 : keepIn (WW w hB mg mb).K (.ref 103) = true := by show keepIn (K w.params) _ = true; kernel_rfl
theorem bi_103 : BindOK fd_103 [("self" : Str)] := bind1 fun a => by kernel_rfl
theorem D_117 : DefIn (WW w hB mg mb) 117 fd_117 (fBody d_is_alu.1) := defIn (by kernel_rfl) (by kernel_rfl) ⟨rfl, rfl, rfl, rfl⟩ (by kernel_rfl)
theorem sc_117 : scopeOK fd_117.scope [("order" : Str)] = true := by kernel_rfl
theorem kp_117 : keepIn (WW w hB mg mb).K (.ref 117) = true := by show keepIn (K w.params) _ = true; kernel_rfl
theorem bi_117 : BindOK fd_117 [("order" : Str)] := bind1 fun a => by kernel_rfl
theorem D_124 : DefIn (WW w hB mg mb) 124 fd_124 (fBody d_is_jumping.1) := defIn (by kernel_rfl) (by kernel_rfl) ⟨rfl, rfl, rfl, rfl⟩ (by kernel_rfl)
theorem sc_124 : scopeOK fd_124.scope [("order" : Str)] = true := by kernel_rfl
theorem kp_124 : keepIn (WW w hB mg mb).K (.ref 124) = true := by show keepIn (K w.params) _ = true; kernel_rfl
theorem bi_124 : BindOK fd_124 [("order" : Str)] := bind1 fun a => by kernel_rfl
theorem D_131 : DefIn (WW w hB mg mb) 131 fd_131 (fBody d_operation.1) := defIn (by kernel_rfl) (by kernel_rfl) ⟨rfl, rfl, rfl, rfl⟩ (by kernel_rfl)
theorem sc_131 : scopeOK fd_131.scope [("order" : Str)] = true := by kernel_rfl
theorem kp_131 : keepIn (WW w hB mg mb).K (.ref 131) = true := by show keepIn (K w.params) _ = true; kernel_rfl
theorem bi_131 : BindOK fd_131 [("order" : Str)] := bind1 fun a => by kernel_rfl
theorem D_138 : DefIn (WW w hB mg mb) 138 fd_138 (fBody d_is_register.1) := defIn (by kernel_rfl) (by kernel_rfl) ⟨rfl, rfl, rfl, rfl⟩ (by kernel_rfl)
theorem sc_138 : scopeOK fd_138.scope [("order" : Str)] = true := by kernel_rfl
theorem kp_138 : keepIn (WW w hB mg mb).K (.ref 138) = true := by show keepIn (K w.params) _ = true; kernel_rfl
theorem bi_138 : BindOK fd_138 [("order" : Str)] := bind1 fun a => by kernel_rfl
theorem D_145 : DefIn (WW w hB mg mb) 145 fd_145 (fBody d_width_of.1) := defIn (by kernel_rfl) (by kernel_rfl) ⟨rfl, rfl, rfl, rfl⟩ (by kernel_rfl)
theorem sc_145 : scopeOK fd_145.scope [("order" : Str)] = true := by kernel_rfl
theorem kp_145 : keepIn (WW w hB mg mb).K (.ref 145) = true := by show keepIn (K w.params) _ = true; kernel_rfl
theorem bi_145 : BindOK fd_145 [("order" : Str)] := bind1 fun a => by kernel_rfl
theorem D_152 : DefIn (WW w hB mg mb) 152 fd_152 (fBody d_mode_of.1) := defIn (by kernel_rfl) (by kernel_rfl) ⟨rfl, rfl, rfl, rfl⟩ (by kernel_rfl)
theorem sc_152 : scopeOK fd_152.scope [("order" : Str)] = true := by kernel_rfl
theorem kp_152 : keepIn (WW w hB mg mb).K (.ref 152) = true := by show keepIn (K w.params) _ = true; kernel_rfl
theorem bi_152 : BindOK fd_152 [("order" : Str)] := bind1 fun a => by kernel_rfl
theorem D_159 : DefIn (WW w hB mg mb) 159 fd_159 (fBody d_alu_size.1) := defIn (by kernel_rfl) (by kernel_rfl) ⟨rfl, rfl, rfl, rfl⟩ (by kernel_rfl)
theorem sc_159 : scopeOK fd_159.scope [("order" : Str)] = true := by kernel_rfl
theorem kp_159 : keepIn (WW w hB mg mb).K (.ref 159) = true := by show keepIn (K w.params) _ = true; kernel_rfl
theorem bi_159 : BindOK fd_159 [("order" : Str)] := bind1 fun a => by kernel_rfl
theorem D_166 : DefIn (WW w hB mg mb) 166 fd_166 (fBody d_is_wide.1) := defIn (by kernel_rfl) (by kernel_rfl) ⟨rfl, rfl, rfl, rfl⟩ (by kernel_rfl)
theorem sc_166 : scopeOK fd_166.scope [("order" : Str)] = true := by kernel_rfl
theorem kp_166 : keepIn (WW w hB mg mb).K (.ref 166) = true := by show keepIn (K w.params) _ = true; kernel_rfl
theorem bi_166 : BindOK fd_166 [("order" : Str)] := bind1 fun a => by kernel_rfl
theorem D_173 : DefIn (WW w hB mg mb) 173 fd_173 (fBody d_is_jump.1) := defIn (by kernel_rfl) (by kernel_rfl) ⟨rfl, rfl, rfl, rfl⟩ (by kernel_rfl)
theorem sc_173 : scopeOK fd_173.scope [("order" : Str)] = true := by kernel_rfl
theorem kp_173 : keepIn (WW w hB mg mb).K (.ref 173) = true := by show keepIn (K w.params) _ = true; kernel_rfl
theorem bi_173 : BindOK fd_173 [("order" : Str)] := bind1 fun a => by kernel_rfl
theorem D_180 : DefIn (WW w hB mg mb) 180 fd_180 (fBody d_is_call.1) := defIn (by kernel_rfl) (by kernel_rfl) ⟨rfl, rfl, rfl, rfl⟩ (by kernel_rfl)
theorem sc_180 : scopeOK fd_180.scope [("order" : Str)] = true := by kernel_rfl
theorem kp_180 : keepIn (WW w hB mg mb).K (.ref 180) = true := by show keepIn (K w.params) _ = true; kernel_rfl
theorem bi_180 : BindOK fd_180 [("order" : Str)] := bind1 fun a => by kernel_rfl
theorem D_187 : DefIn (WW w hB mg mb) 187 fd_187 (fBody d_is_exit.1) := defIn (by kernel_rfl) (by kernel_rfl) ⟨rfl, rfl, rfl, rfl⟩ (by kernel_rfl)
theorem sc_187 : scopeOK fd_187.scope [("order" : Str)] = true := by kernel_rfl
theorem kp_187 : keepIn (WW w hB mg mb).K (.ref 187) = true := by show keepIn (K w.params) _ = true; kernel_rfl
theorem bi_187 : BindOK fd_187 [("order" : Str)] := bind1 fun a => by kernel_rfl
theorem D_194 : DefIn (WW w hB mg mb) 194 fd_194 (fBody d_is_branch.1) := defIn (by kernel_rfl) (by kernel_rfl) ⟨rfl, rfl, rfl, rfl⟩ (by kernel_rfl)
theorem sc_194 : scopeOK fd_194.scope [("order" : Str)] = true := by kernel_rfl
theorem kp_194 : keepIn (WW w hB mg mb).K (.ref 194) = true := by show keepIn (K w.params) _ = true; kernel_rfl
theorem bi_194 : BindOK fd_194 [("order" : Str)] := bind1 fun a => by kernel_rfl
theorem D_201 : DefIn (WW w hB mg mb) 201 fd_201 (fBody d_atomic_name.1) := defIn (by kernel_rfl) (by kernel_rfl) ⟨rfl, rfl, rfl, rfl⟩ (by kernel_rfl)
theorem sc_201 : scopeOK fd_201.scope [("order" : Str)] = true := by kernel_rfl
theorem kp_201 : keepIn (WW w hB mg mb).K (.ref 201) = true := by show keepIn (K w.params) _ = true; kernel_rfl
theorem bi_201 : BindOK fd_201 [("order" : Str)] := bind1 fun a => by kernel_rfl
theorem D_208 : DefIn (WW w hB mg mb) 208 fd_208 (fBody d_need.1) := defIn (by kernel_rfl) (by kernel_rfl) ⟨rfl, rfl, rfl, rfl⟩ (by kernel_rfl)
theorem sc_208 : scopeOK fd_208.scope [("is_right" : Str), ("what" : Str)] = true := by kernel_rfl
theorem kp_208 : keepIn (WW w hB mg mb).K (.ref 208) = true := by show keepIn (K w.params) _ = true; kernel_rfl
theorem bi_208 : BindOK fd_208 [("is_right" : Str), ("what" : Str)] := bind2 fun a b => by kernel_rfl
theorem D_215 : DefIn (WW w hB mg mb) 215 fd_215 (fBody d_check_fields.1) := defIn (by kernel_rfl) (by kernel_rfl) ⟨rfl, rfl, rfl, rfl⟩ (by kernel_rfl)
theorem sc_215 : scopeOK fd_215.scope [("order" : Str)] = true := by kernel_rfl
theorem kp_215 : keepIn (WW w hB mg mb).K (.ref 215) = true := by show keepIn (K w.params) _ = true; kernel_rfl
theorem bi_215 : BindOK fd_215 [("order" : Str)] := bind1 fun a => by kernel_rfl
theorem D_222 : DefIn (WW w hB mg mb) 222 fd_222 (fBody d_check_end.1) := defIn (by kernel_rfl) (by kernel_rfl) ⟨rfl, rfl, rfl, rfl⟩ (by kernel_rfl)
theorem sc_222 : scopeOK fd_222.scope [("order" : Str)] = true := by kernel_rfl
theorem kp_222 : keepIn (WW w hB mg mb).K (.ref 222) = true := by show keepIn (K w.params) _ = true; kernel_rfl
theorem bi_222 : BindOK fd_222 [("order" : Str)] := bind1 fun a => by kernel_rfl
theorem D_229 : DefIn (WW w hB mg mb) 229 fd_229 (fBody d_check_extension.1) := defIn (by kernel_rfl) (by kernel_rfl) ⟨rfl, rfl, rfl, rfl⟩ (by kernel_rfl)
theorem sc_229 : scopeOK fd_229.scope [("order" : Str)] = true := by kernel_rfl
theorem kp_229 : keepIn (WW w hB mg mb).K (.ref 229) = true := by show keepIn (K w.params) _ = true; kernel_rfl
theorem bi_229 : BindOK fd_229 [("order" : Str)] := bind1 fun a => by kernel_rfl
theorem D_236 : DefIn (WW w hB mg mb) 236 fd_236 (fBody d_check_number.1) := defIn (by kernel_rfl) (by kernel_rfl) ⟨rfl, rfl, rfl, rfl⟩ (by kernel_rfl)
theorem sc_236 : scopeOK fd_236.scope [("order" : Str), ("name" : Str)] = true := by kernel_rfl
theorem kp_236 : keepIn (WW w hB mg mb).K (.ref 236) = true := by show keepIn (K w.params) _ = true; kernel_rfl
theorem bi_236 : BindOK fd_236 [("order" : Str), ("name" : Str)] := bind2 fun a b => by kernel_rfl
theorem D_243 : DefIn (WW w hB mg mb) 243 fd_243 (fBody d_check_alu.1) := defIn (by kernel_rfl) (by kernel_rfl) ⟨rfl, rfl, rfl, rfl⟩ (by kernel_rfl)
theorem sc_243 : scopeOK fd_243.scope [("order" : Str)] = true := by kernel_rfl
theorem kp_243 : keepIn (WW w hB mg mb).K (.ref 243) = true := by show keepIn (K w.params) _ = true; kernel_rfl
theorem bi_243 : BindOK fd_243 [("order" : Str)] := bind1 fun a => by kernel_rfl
theorem D_250 : DefIn (WW w hB mg mb) 250 fd_250 (fBody d_check_jump.1) := defIn (by kernel_rfl) (by kernel_rfl) ⟨rfl, rfl, rfl, rfl⟩ (by kernel_rfl)
theorem sc_250 : scopeOK fd_250.scope [("order" : Str)] = true := by kernel_rfl
theorem kp_250 : keepIn (WW w hB mg mb).K (.ref 250) = true := by show keepIn (K w.params) _ = true; kernel_rfl
theorem bi_250 : BindOK fd_250 [("order" : Str)] := bind1 fun a => by kernel_rfl
theorem D_257 : DefIn (WW w hB mg mb) 257 fd_257 (fBody d_check_jumping.1) := defIn (by kernel_rfl) (by kernel_rfl) ⟨rfl, rfl, rfl, rfl⟩ (by kernel_rfl)
theorem sc_257 : scopeOK fd_257.scope [("order" : Str)] = true := by kernel_rfl
theorem kp_257 : keepIn (WW w hB mg mb).K (.ref 257) = true := by show keepIn (K w.params) _ = true; kernel_rfl
theorem bi_257 : BindOK fd_257 [("order" : Str)] := bind1 fun a => by kernel_rfl
theorem D_264 : DefIn (WW w hB mg mb) 264 fd_264 (fBody d_check_load.1) := defIn (by kernel_rfl) (by kernel_rfl) ⟨rfl, rfl, rfl, rfl⟩ (by kernel_rfl)
theorem sc_264 : scopeOK fd_264.scope [("order" : Str)] = true := by kernel_rfl
theorem kp_264 : keepIn (WW w hB mg mb).K (.ref 264) = true := by show keepIn (K w.params) _ = true; kernel_rfl
theorem bi_264 : BindOK fd_264 [("order" : Str)] := bind1 fun a => by kernel_rfl
theorem D_271 : DefIn (WW w hB mg mb) 271 fd_271 (fBody d_check_stx.1) := defIn (by kernel_rfl) (by kernel_rfl) ⟨rfl, rfl, rfl, rfl⟩ (by kernel_rfl)
theorem sc_271 : scopeOK fd_271.scope [("order" : Str)] = true := by kernel_rfl
theorem kp_271 : keepIn (WW w hB mg mb).K (.ref 271) = true := by show keepIn (K w.params) _ = true; kernel_rfl
theorem bi_271 : BindOK fd_271 [("order" : Str)] := bind1 fun a => by kernel_rfl
theorem D_278 : DefIn (WW w hB mg mb) 278 fd_278 (fBody d_check_order.1) := defIn (by kernel_rfl) (by kernel_rfl) ⟨rfl, rfl, rfl, rfl⟩ (by kernel_rfl)
theorem sc_278 : scopeOK fd_278.scope [("order" : Str)] = true := by kernel_rfl
theorem kp_278 : keepIn (WW w hB mg mb).K (.ref 278) = true := by show keepIn (K w.params) _ = true; kernel_rfl
theorem bi_278 : BindOK fd_278 [("order" : Str)] := bind1 fun a => by kernel_rfl
theorem D_285 : DefIn (WW w hB mg mb) 285 fd_285 (fBody d_pack.1) := defIn (by kernel_rfl) (by kernel_rfl) ⟨rfl, rfl, rfl, rfl⟩ (by kernel_rfl)
theorem sc_285 : scopeOK fd_285.scope [("order" : Str)] = true := by kernel_rfl
theorem kp_285 : keepIn (WW w hB mg mb).K (.ref 285) = true := by show keepIn (K w.params) _ = true; kernel_rfl
theorem bi_285 : BindOK fd_285 [("order" : Str)] := bind1 fun a => by kernel_rfl
theorem D_292 : DefIn (WW w hB mg mb) 292 fd_292 (fBody d_second_half.1) := defIn (by kernel_rfl) (by kernel_rfl) ⟨rfl, rfl, rfl, rfl⟩ (by kernel_rfl)
theorem sc_292 : scopeOK fd_292.scope [("octets" : Str), ("at" : Str)] = true := by kernel_rfl
theorem kp_292 : keepIn (WW w hB mg mb).K (.ref 292) = true := by show keepIn (K w.params) _ = true; kernel_rfl
theorem bi_292 : BindOK fd_292 [("octets" : Str), ("at" : Str)] := bind2 fun a b => by kernel_rfl
theorem D_300 : DefIn (WW w hB mg mb) 300 fd_300 (fBody d_unpack.1) := defIn (by kernel_rfl) (by kernel_rfl) ⟨rfl, rfl, rfl, rfl⟩ (by kernel_rfl)
theorem sc_300 : scopeOK fd_300.scope [("octets" : Str), ("at" : Str)] = true := by kernel_rfl
theorem kp_300 : keepIn (WW w hB mg mb).K (.ref 300) = true := by show keepIn (K w.params) _ = true; kernel_rfl
theorem D_307 : DefIn (WW w hB mg mb) 307 fd_307 (fBody d_pack_all.1) := defIn (by kernel_rfl) (by kernel_rfl) ⟨rfl, rfl, rfl, rfl⟩ (by kernel_rfl)
theorem sc_307 : scopeOK fd_307.scope [("orders" : Str)] = true := by kernel_rfl
theorem kp_307 : keepIn (WW w hB mg mb).K (.ref 307) = true := by show keepIn (K w.params) _ = true; kernel_rfl
theorem bi_307 : BindOK fd_307 [("orders" : Str)] := bind1 fun a => by kernel_rfl
theorem D_314 : DefIn (WW w hB mg mb) 314 fd_314 (fBody d_unpack_all.1) := defIn (by kernel_rfl) (by kernel_rfl) ⟨rfl, rfl, rfl, rfl⟩ (by kernel_rfl)
theorem sc_314 : scopeOK fd_314.scope [("octets" : Str)] = true := by kernel_rfl
theorem kp_314 : keepIn (WW w hB mg mb).K (.ref 314) = true := by show keepIn (K w.params) _ = true; kernel_rfl
theorem bi_314 : BindOK fd_314 [("octets" : Str)] := bind1 fun a => by kernel_rfl
theorem D_321 : DefIn (WW w hB mg mb) 321 fd_321 (fBody d_law_codes.1) := defIn (by kernel_rfl) (by kernel_rfl) ⟨rfl, rfl, rfl, rfl⟩ (by kernel_rfl)
theorem sc_321 : scopeOK fd_321.scope [] = true := by kernel_rfl
theorem kp_321 : keepIn (WW w hB mg mb).K (.ref 321) = true := by show keepIn (K w.params) _ = true; kernel_rfl
theorem bi_321 : BindOK fd_321 [] := bind0 (by kernel_rfl)
theorem D_328 : DefIn (WW w hB mg mb) 328 fd_328 (fBody d_law_number.1) := defIn (by kernel_rfl) (by kernel_rfl) ⟨rfl, rfl, rfl, rfl⟩ (by kernel_rfl)
theorem sc_328 : scopeOK fd_328.scope [("low" : Str), ("size" : Str)] = true := by kernel_rfl
theorem kp_328 : keepIn (WW w hB mg mb).K (.ref 328) = true := by show keepIn (K w.params) _ = true; kernel_rfl
theorem bi_328 : BindOK fd_328 [("low" : Str), ("size" : Str)] := bind2 fun a b => by kernel_rfl
theorem D_333 : DefIn (WW w hB mg mb) 333 fd_333 (fBody d_law_row.1) := defIn (by kernel_rfl) (by kernel_rfl) ⟨rfl, rfl, rfl, rfl⟩ (by kernel_rfl)
theorem sc_333 : scopeOK fd_333.scope [("cell" : Str)] = true := by kernel_rfl
theorem kp_333 : keepIn (WW w hB mg mb).K (.ref 333) = true := by show keepIn (K w.params) _ = true; kernel_rfl
theorem bi_333 : BindOK fd_333 [("cell" : Str)] := bind1 fun a => by kernel_rfl
theorem D_340 : DefIn (WW w hB mg mb) 340 fd_340 (fBody d_law_deed_is.1) := defIn (by kernel_rfl) (by kernel_rfl) ⟨rfl, rfl, rfl, rfl⟩ (by kernel_rfl)
theorem sc_340 : scopeOK fd_340.scope [("kind" : Str), ("back" : Str), ("away" : Str), ("whole" : Str)] = true := by kernel_rfl
theorem kp_340 : keepIn (WW w hB mg mb).K (.ref 340) = true := by show keepIn (K w.params) _ = true; kernel_rfl
theorem bi_340 : BindOK fd_340 [("kind" : Str), ("back" : Str), ("away" : Str), ("whole" : Str)] := bind4 fun a b c d => by kernel_rfl
theorem D_347 : DefIn (WW w hB mg mb) 347 fd_347 (fBody d_law_jump_is.1) := defIn (by kernel_rfl) (by kernel_rfl) ⟨rfl, rfl, rfl, rfl⟩ (by kernel_rfl)
theorem sc_347 : scopeOK fd_347.scope [("kind" : Str), ("goal" : Str), ("back" : Str), ("away" : Str), ("whole" : Str)] = true := by kernel_rfl
theorem kp_347 : keepIn (WW w hB mg mb).K (.ref 347) = true := by show keepIn (K w.params) _ = true; kernel_rfl
theorem bi_347 : BindOK fd_347 [("kind" : Str), ("goal" : Str), ("back" : Str), ("away" : Str), ("whole" : Str)] := bind5 fun a b c d e => by kernel_rfl
theorem D_354 : DefIn (WW w hB mg mb) 354 fd_354 (fBody d_law_is.1) := defIn (by kernel_rfl) (by kernel_rfl) ⟨rfl, rfl, rfl, rfl⟩ (by kernel_rfl)
theorem sc_354 : scopeOK fd_354.scope [("kind" : Str), ("goal" : Str), ("back" : Str), ("away" : Str), ("whole" : Str)] = true := by kernel_rfl
theorem kp_354 : keepIn (WW w hB mg mb).K (.ref 354) = true := by show keepIn (K w.params) _ = true; kernel_rfl
theorem bi_354 : BindOK fd_354 [("kind" : Str), ("goal" : Str), ("back" : Str), ("away" : Str), ("whole" : Str)] := bind5 fun a b c d e => by kernel_rfl
theorem D_359 : DefIn (WW w hB mg mb) 359 fd_359 (fBody d_law_due.1) := defIn (by kernel_rfl) (by kernel_rfl) ⟨rfl, rfl, rfl, rfl⟩ (by kernel_rfl)
theorem sc_359 : scopeOK fd_359.scope [("octs" : Str)] = true := by kernel_rfl
theorem kp_359 : keepIn (WW w hB mg mb).K (.ref 359) = true := by show keepIn (K w.params) _ = true; kernel_rfl
theorem bi_359 : BindOK fd_359 [("octs" : Str)] := bind1 fun a => by kernel_rfl
theorem D_366 : DefIn (WW w hB mg mb) 366 fd_366 (fBody d_law_heard.1) := defIn (by kernel_rfl) (by kernel_rfl) ⟨rfl, rfl, rfl, rfl⟩ (by kernel_rfl)
theorem sc_366 : scopeOK fd_366.scope [("ask" : Str)] = true := by kernel_rfl
theorem kp_366 : keepIn (WW w hB mg mb).K (.ref 366) = true := by show keepIn (K w.params) _ = true; kernel_rfl
theorem bi_366 : BindOK fd_366 [("ask" : Str)] := bind1 fun a => by kernel_rfl
theorem D_373 : DefIn (WW w hB mg mb) 373 fd_373 (fBody d_law_row_right.1) where
  lk := by show (K w.params).lookup 373 = _; kernel_rfl
  code := by show codeIs (K w.params) _ _ = true; kernel_rfl
  gl := rfl
  cl := rfl
  bi := rfl
  body := rfl
  lam := fun _ => ⟨372, 368, rfl, List.Mem.head _⟩
theorem sc_373 : scopeOK fd_373.scope [("octs" : Str), ("due" : Str), ("ahead" : Str)] = true := by kernel_rfl
theorem kp_373 : keepIn (WW w hB mg mb).K (.ref 373) = true := by show keepIn (K w.params) _ = true; kernel_rfl
theorem bi_373 : BindOK fd_373 [("octs" : Str), ("due" : Str), ("ahead" : Str)] := bind3 fun a b c => by kernel_rfl
theorem D_378 : DefIn (WW w hB mg mb) 378 fd_378 (fBody d_law_made_right.1) where
  lk := by show (K w.params).lookup 378 = _; kernel_rfl
  code := by show codeIs (K w.params) _ _ = true; kernel_rfl
  gl := rfl
  cl := rfl
  bi := rfl
  body := rfl
  lam := fun _ => ⟨377, 375, rfl, List.Mem.tail _ (List.Mem.head _)⟩
theorem sc_378 : scopeOK fd_378.scope [("octs" : Str), ("due" : Str)] = true := by kernel_rfl
theorem kp_378 : keepIn (WW w hB mg mb).K (.ref 378) = true := by show keepIn (K w.params) _ = true; kernel_rfl
theorem bi_378 : BindOK fd_378 [("octs" : Str), ("due" : Str)] := bind2 fun a b => by kernel_rfl
theorem D_383 : DefIn (WW w hB mg mb) 383 fd_383 (fBody d_law.1) where
  lk := by show (K w.params).lookup 383 = _; kernel_rfl
  code := by show codeIs (K w.params) _ _ = true; kernel_rfl
  gl := rfl
  cl := rfl
  bi := rfl
  body := rfl
  lam := fun _ => ⟨382, 380, rfl, List.Mem.tail _ (List.Mem.tail _ (List.Mem.head _))⟩
theorem sc_383 : scopeOK fd_383.scope [("script" : Str)] = true := by kernel_rfl
theorem bi_383 : BindOK fd_383 [("script" : Str)] := bind1 fun a => by kernel_rfl
end
section
open PySem.Builtin PySem.Builtin.ObjectAttr
noncomputable def immP (p : PV) : Bool := match p with
  | .none | .bool _ | .int _ | .str _ | .bytes _ | .opq _ => true
  | _ => false
theorem Rep.imm {W : Wd} {h h' : Heap} {X X' : Addr -> Prop} {v : Value} {p : PV} (r : Rep W h X v p) (hp : immP p = true) : Rep W h' X' v p := by
  induction p using PV.casesOn with
  | none => rw [r.isNone]; exact .none
  | bool b => rw [r.isBool]; exact .bool b
  | int i =>
    obtain ⟨t, rfl⟩ := r.isInt
    exact .int i t
  | str x =>
    obtain ⟨t, rfl⟩ := r.isStr
    exact .str x t
  | bytes b =>
    obtain ⟨t, rfl⟩ := r.isBytes
    exact .bytes b t
  | opq a => rw [r.isOpq]; exact .opq a
  | _ => exact nomatch hp
noncomputable def flatSc (sc : Scope) : Bool := sc.names.all fun p => p.2 != .cell && p.2 != .free
theorem flat_no {sc : Scope} (h : flatSc sc = true) (x : Str) : sc.names.lookup x ≠ some .cell /\ sc.names.lookup x ≠ some .free := by
  have h6 := List.all_eq_true.mp h
  refine ⟨fun q => ?_, fun q => ?_⟩ <;> (have := h6 _ (mem_of_lookup q); simp at this)
section
variable {W : Wd} {n : Nat} {sc : Scope} {σ : Vars} {env : Env} {A : Around} {X X' Y : Addr -> Prop} {s s' : Shared} {E : Value -> Shared -> Prop} {L : Addr} {old : Nat}
theorem Fra.stepP (F : Fra W sc σ X env L old s.heap) (hsc : flatSc sc = true) (hσ : σ.all (fun p => immP p.2) = true) (t : Step W Y s s') (hL : ¬ Y L) : Fra W sc σ X' env L old s'.heap :=
  { F with
    obj := by
      obtain ⟨o, es, ep, e, hc, hd⟩ := F.obj
      obtain ⟨sl, e', _⟩ := t.keeps L o e hL (fun q => by obtain ⟨q, _⟩ := q; rw [hc] at q; cases q)
      exact ⟨_, es, ep, e', hc, hd⟩
    ns := by
      obtain ⟨m, a, b⟩ := F.ns
      refine ⟨m, ns_keeps a t.keeps hL, fun x p e => ?_⟩
      have hk : env.kindOf x = sc.names.lookup x := by show env.scope.names.lookup x = _; rw [F.scope]
      rcases b x p e with ⟨a, v, b, c⟩ | ⟨a, cd, c, v, b, d, e⟩
      · exact .inl ⟨a, v, b, c.imm (List.all_eq_true.mp hσ _ (mem_of_lookup e))⟩
      · rw [hk] at a
        rcases a with a | a
        · exact absurd a (flat_no hsc x).1
        · exact absurd a (flat_no hsc x).2
    own := fun x hx => absurd hx (flat_no hsc x).1 }
theorem attr_any {prog : Program} {w : World} {o : Expr} {name : Str} {pos : Pos} {Q : Value -> Shared -> Prop} (hn : isNull o = false) (h : wpAny (model prog w) A (eval o env) (fun v s1 => wpAny (model prog w) A (getAttr v name true) Q E s1) E s) : wpAny (model prog w) A (eval (.Attribute o name pos) env) Q E s := by
  rw [arm_eval_Attribute, base_null hn]
  exact wpAny_bind (wpAny_mono h (fun v s1 q => wpAny_bind (wpAny_standAt (wpAny_bind (wpAny_holding (wpAny_mono q (fun r s2 q2 => wpAny_bind (wpAny_letTemporaryGo (wpAny_pure q2))) fun _ _ q => q))))) fun _ _ q => q)
theorem keeper_at {M : Model} {q : Addr} (h : Heap) (hq : FnAt q h) : ∃ k, (k = Keeper.frame \/ k = Keeper.machine \/ k = Keeper.boundFrame) /\ Looks M h (keeperOf (.ref q)) k := by
  obtain ⟨oc, od, fd, sl, e⟩ := hq
  exact ⟨.frame, .inl rfl, (Looks.ld e).andThen .now⟩
end
section
variable {W : Wd} {X Y : Addr -> Prop} {s s' s0 : Shared} {L : Addr} {old : Nat} {fl : Option Value -> Prop} {e : Value} {pa : PV}
theorem Exc.stepS (x : Exc W s.heap X old fl e pa) (t : StepS W Y s s') (hy : ∀ a, Y a -> a < old) : Exc W s'.heap X old fl e pa := by
  obtain ⟨ea, dx, vs, what, t1, t2, tw, hs1, hs2, n, va, sl, sld, rfl, q2, q3, q4, q5, q6, q7, q8⟩ := x
  refine ⟨ea, dx, vs, what, t1, t2, tw, hs1, hs2, n, va, sl, sld, rfl, q2, q3, t.t.keeps.get q4 (fun q => Nat.not_lt.mpr q2 (hy _ q)) nofun nofun, q5, t.t.keeps.get q6 (fun q => Nat.not_lt.mpr q3 (hy _ q)) nofun dict_ne_frame, t.r _ _ _ q7, ?_⟩
  rcases q8 with q8 | ⟨T, oT, ts, f, r1, r2, r3, r4, r5, r6, r7, r8⟩
  · exact .inl q8
  · exact .inr ⟨T, oT, ts, f, r1, r2, r3, t.t.keeps.get r4 (fun q => Nat.not_lt.mpr r3 (hy _ q)) (by rw [r5]; exact nofun) (by rw [r5]; decide), r5, r6, r7, r8⟩
theorem Step.lastSame {h' : Heap} {tk : Nat} {o : Obj} (t : Step W (fun a => L <= a) s0 s) (hL : s0.heap.objs.size = L) (hB : W.hB.objs.size <= L) (ho : s.heap.get? L = some o) (hc : o.cls = .type "frame") (k : Heap.SameBut L s.heap h') : Step W (fun a => L <= a) s0 { s with heap := h', toks := tk } where
  keeps := fun b ob e hy hc => by
    obtain ⟨sl, e', f⟩ := t.keeps b ob e hy hc
    exact ⟨sl, k.extBut b _ (fun q => hy (Nat.le_of_eq q.symm)) e', f⟩
  base := t.base.turn ho hB (by rw [hc]; exact nofun) (by rw [hc]; decide) k.extBut (Nat.le_of_eq k.1.symm)
  size := Nat.le_trans t.size (Nat.le_of_eq k.1.symm)
  gens := t.gens
  os := t.os
  fr := fun b ob es n e c d => by
    obtain ⟨o', es', n', e', c', d'⟩ := t.fr b ob es n e c d
    exact ⟨o', es', n', k.extBut b _ (fun q => by have := Heap.lt_size e; rw [hL, q] at this; exact Nat.lt_irrefl _ this) e', c', d'⟩
end
theorem k_x_one (P : Params) : exmOne (K P) (.ref 52) (.ref 52) = some true := by kernel_rfl
theorem st_error : isStored fd_366.scope "error" = true := by kernel_rfl
theorem g_codeerr : fd_366.scope.names.lookup ("CodeError" : Str) = some .globalImplicit := by kernel_rfl
theorem l_error : fd_366.scope.names.lookup ("error" : Str) = some .local := by kernel_rfl
theorem fl_366 : flatSc fd_366.scope = true := by kernel_rfl
section
variable {w : World} {hB : Heap} {mg mb : Str -> Option Value} {n : Nat} {A : Around} {X : Addr -> Prop} {s s' s0 : Shared} {E : Value -> Shared -> Prop} {σ : Vars} {env : Env} {L old : Addr}
theorem heard_body (ok : (WW w hB mg mb).Ok) (CE : GlobAt (WW w hB mg mb) "CodeError" (.ref 52)) {q : Addr} {r : Out PV} {Q : Flow -> Shared -> Prop}
    (S : Sit (WW w hB mg mb) n A X s) (T : AtTop A env) (F : Fra (WW w hB mg mb) fd_366.scope [("ask", .opq q)] X env L L s.heap) (hlo : hB.objs.size <= L) (t0 : Step (WW w hB mg mb) (fun a => L <= a) s0 s) (hL0 : s0.heap.objs.size = L) (hq : FnAt q s.heap)
    (run : wpAny (model (WW w hB mg mb).prog w) A (call (.ref q) []) (Post (WW w hB mg mb) s (RV (WW w hB mg mb) X) r) (Epost (WW w hB mg mb) X s r) s)
    (fin : ∀ p v s', heardOut r = .ok p -> Rep (WW w hB mg mb) s'.heap X v p -> Step (WW w hB mg mb) (fun a => L <= a) s0 s' -> Q (.ret v) s') :
    wpAny (model (WW w hB mg mb).prog w) A (execs (fBody d_law_heard.1) env) Q E s := by
  obtain ⟨e0, rest, f1, f2, f3⟩ := T.at F
  obtain ⟨l, g1, g2⟩ := S.fr
  rw [f1] at g1; cases g1
  have hLs : L < s.heap.objs.size := by obtain ⟨o, es, ep, e, _⟩ := F.obj; exact Heap.lt_size e
  delta d_law_heard fBody
  dsimp only
  refine wpAny_execs_cons (wpAny_Try_except (wpAny_execs_cons (wpAny_Return_some (wpAny_List (wpAny_items_cons (wpAny_Call_ofName (var_stmt F (by rfl) (by decide) fun u ru => ?_)) (by rfl))))))
  obtain rfl := ru.isOpq
  refine callWith_fn (P := fun h => FnAt q h) (by rfl) keeper_at (wpAny_items_nil ⟨hq, ?_⟩)
  refine wpAny_mono run (fun v s2 hp => wpAny_items_nil ?_) (fun e s2 hp => ?_)
  · obtain ⟨a, e1, ra, t⟩ := hp
    have t2 : Step (WW w hB mg mb) NoA s2 { s2 with heap := s2.heap.push { cls := .type "list", data := .seq [v].toArray } } := Step.push t.base
    refine ⟨by simp [sizeLine_eq], ?_⟩
    exact fin (.list [a]) _ _ (by rw [e1]; rfl) (.list (vs := [v]) (Heap.get?_push_size _ rfl) rfl rfl (fun q => Nat.lt_irrefl _ ((S.step t).priv _ q)) rfl ((Reps.cons ra .nil).keeps t2.keeps fun a f => f.elim)) (t0.trans (t.trans t2).no)
  · obtain ⟨pa, e1, x, t⟩ := hp
    have Y0 : ∀ {s1 s2 : Shared}, Step (WW w hB mg mb) (fun a => s.heap.objs.size <= a) s1 s2 -> Fra (WW w hB mg mb) fd_366.scope [("ask", .opq q)] X env L L s1.heap -> Fra (WW w hB mg mb) fd_366.scope [("ask", .opq q)] X env L L s2.heap := fun t F => F.stepP fl_366 rfl t (Nat.not_le.mpr hLs)
    refine wpAny_mono (exc_note (W := WW w hB mg mb) (L := L) f1 (g2.step t.fr) f2 f3 t.base (x.flow fun o z => z.elim .inl fun z => .inr (.inl z)) (S.base.size) t.size) (fun _ s3 q3 => ?_) fun _ _ q => q
    refine wpAny_mono (exc_flight (W := WW w hB mg mb) (q3.1.flow fun o z => by rw [z]; exact nofun) q3.2.base S.base.size none) (fun _ s4 q4 => ?_) fun _ _ q => q
    have F4 := Y0 q4.2 (Y0 q3.2 (Y0 t.no F))
    have x4 := q4.1
    obtain ⟨ea, hea⟩ : ∃ ea, e = .ref ea /\ ∃ o, s4.heap.get? ea = some o /\ o.cls = .ref 52 := by
      obtain ⟨ea, dx, vs, what, t1, t2, tw, hs1, hs2, n, va, sl, sld, rfl, p2, p3, p4, _⟩ := x4
      exact ⟨ea, rfl, _, p4, rfl⟩
    obtain ⟨rfl, oe, he4, hce⟩ := hea
    have XK := ok.inK q4.2.base
    refine wpAny_handleBy_cons (codeAny_handlers_test (wpAny_Name (loadName_glob ok q4.2.base F4.envOK g_codeerr CE ((exm_one XK (by have := (Looks.ld (M := model (WW w hB mg mb).prog w) (part := none) he4); rw [<- hce]; exact this.andThen .now) (k_x_one _)).here ?_)) (by decide))) (by intro q; cases q)
    refine codeAny_handlers_suite_as ?_
    refine wpAny_mono (exc_flight (W := WW w hB mg mb) (x4.flow fun o z => by rw [z]; exact nofun) q4.2.base S.base.size none) (fun _ s5 q5 => ?_) fun _ _ q => q
    have F5 := Y0 q5.2 F4
    refine F5.store (x := "error") q5.2.base hlo st_error (.opq ea) fun s6 t6 F6 => ?_
    have x6 := q5.1.stepS t6 fun a q => by
      rcases q with rfl | ⟨y, y1, y2⟩
      · exact hLs
      · exact absurd y1 (flat_no fl_366 y).1
    have up : ∀ {s1 s2 : Shared}, Step (WW w hB mg mb) (fun a => s.heap.objs.size <= a) s1 s2 -> Step (WW w hB mg mb) (fun a => L <= a) s1 s2 := fun t => t.mono fun a _ q => Nat.le_trans (Nat.le_of_lt hLs) q
    have t06 : Step (WW w hB mg mb) (fun a => L <= a) s0 s6 := t0.trans (t.no.trans ((up q3.2).trans ((up q4.2).trans ((up q5.2).trans (t6.t.mono fun a _ q => F5.yold a q)))))
    refine wpAny_execs_cons (wpAny_Return_some (wpAny_Tuple (wpAny_items_cons (wpAny_Constant_str (wpAny_items_cons (attr_any (by rfl) (var_stmt F6 (by rfl) (by decide) fun u ru => ?_)) (by rfl))) (by rfl))))
    obtain rfl := ru.isOpq
    refine exc_at (s := { s6 with toks := s6.toks + 1 }) ok t6.t.base x6 fun v rv => wpAny_items_nil ⟨by simp [sizeLine_eq], ?_⟩
    have t7 : Step (WW w hB mg mb) NoA s6 { s6 with heap := s6.heap.push { cls := .type "tuple", data := .seq [.str "refused" s6.toks, v].toArray }, toks := s6.toks + 1 + 1 } := Step.push t6.t.base
    have F7 : Fra (WW w hB mg mb) fd_366.scope _ X env L L (s6.heap.push { cls := .type "tuple", data := .seq [.str "refused" s6.toks, v].toArray }) := F6.no t7
    obtain ⟨m, hm, _⟩ := F7.ns
    obtain ⟨oL, esL, epL, eL, cL, dL⟩ := F7.obj
    have hk : env.kindOf "error" = some .local := by show env.scope.names.lookup _ = _; rw [F7.scope]; exact l_error
    have hpp : (env.scope.kind == .class || (env.scope.kind == .module && env.locals != env.globals)) = false := by rw [F7.scope]; rfl
    refine wpAny_nameGoes hk (by rw [F7.loc]; exact hm) hpp fun h8 m8 hn8 hs8 => ?_
    rw [F7.loc] at hs8
    have hsz : s.heap.objs.size <= s6.heap.objs.size := Nat.le_trans t.size (Nat.le_trans q3.2.size (Nat.le_trans q4.2.size (Nat.le_trans q5.2.size t6.t.size)))
    refine fin (.tuple [.str "refused", pa]) _ _ (by rw [e1]; rfl) ?_ ((t06.trans t7.no).lastSame hL0 hlo eL cL hs8)
    have r7 : Rep (WW w hB mg mb) (s6.heap.push { cls := .type "tuple", data := .seq [.str "refused" s6.toks, v].toArray }) X (.ref s6.heap.objs.size) (.tuple [.str "refused", pa]) :=
      .tuple (vs := [.str "refused" s6.toks, v]) (Heap.get?_push_size _ rfl) rfl rfl (fun q => Nat.lt_irrefl _ (Nat.lt_of_lt_of_le (S.priv _ q) hsz)) ((Reps.cons (.str _ _) (.cons rv .nil)).keeps t7.keeps fun a f => f.elim)
    exact r7.turn eL (NoDatum.frame cL dL) (KeepsBut.of_extBut hs8.extBut rfl)
theorem FnAt.stepN {W : Wd} {q : Addr} (h : FnAt q s.heap) (t : Step W NoA s s') : FnAt q s'.heap := by
  obtain ⟨oc, od, fd, sl, e⟩ := h
  obtain ⟨sl', e', _⟩ := t.keeps q _ e id (fun z => by obtain ⟨_, vs, z⟩ := z; cases z)
  exact ⟨oc, od, fd, sl', e'⟩
theorem heard_ok (ok : (WW w hB mg mb).Ok) (CE : GlobAt (WW w hB mg mb) "CodeError" (.ref 52)) (m : Nat) : HeardOK (WW w hB mg mb) m (.ref 366) where
  kp := .inr kp_366
  run := fun A X s q r E S hq run hne => by
    refine wpAny_call (def_in (n := m + 1) (X := X) ok D_366 sc_366 S.to0 (BindsTo.of_eq (bi_366 [.ref q] rfl)) (.cons (.opq q) .nil) fun env s1 t1 S1 T1 F1 => ?_)
    have tN : Step (WW w hB mg mb) NoA s s1 := t1.mono fun a ha z => absurd ha (Nat.not_lt.mpr z)
    have S2 : Sit (WW w hB mg mb) m (A.deeper env) X s1 := ⟨S1.base, (S1.less (Nat.le_succ m)).room, S.hand, S1.fr, fun a z => Nat.lt_of_lt_of_le (S.priv a z) t1.size⟩
    refine heard_body ok CE S2 T1 F1 S.base.size t1 rfl (FnAt.stepN hq tN) (run _ _ S2 tN) fun p v s' hp rp t => ?_
    exact ⟨p, hp, rp, t.mono fun a ha z => absurd ha (Nat.not_lt.mpr z)⟩
end
end
noncomputable def heldIds : List String := ["bytearray.__contains__", "bytearray.__mod__", "bytearray.__rmod__", "_struct.pack_into.held", "bytearray.find.held"] ++ Builtin.Bytes.decodersThatHold
noncomputable def cleanC (c : Code) : Bool := match c with
  | .builtin id _ => !heldIds.contains id
  | _ => true
structure Clean (Γ : Ctx) : Prop where
  code : cleanC Γ.code = true
  below : ∀ x ∈ Γ.below, cleanC x.1 = true
noncomputable def wpN {α : Type} (M : Model) (A : Around) (t : Sem α) (Q : α -> Shared -> Prop) (E : Value -> Shared -> Prop) (s : Shared) : Prop :=
  ∀ Γ p, Clean Γ -> Γ.In A -> Sem.wp M Γ t (fun a _ s' => Q a s') (fun e _ s' => E e s') p s
noncomputable def codeN (M : Model) (A : Around) (c : Code) (R : Result -> Shared -> Prop) (s : Shared) : Prop :=
  ∀ Γ p, Clean Γ -> Γ.code = c -> Γ.Below A -> wpCode M Γ R p s
theorem Clean.enter {Γ : Ctx} (h : Clean Γ) {c : Code} (hc : cleanC c = true) (hd : Option Value) (p : Pos) : Clean (Γ.enter c hd p) :=
  ⟨hc, fun x hx => by
    rcases List.mem_cons.mp hx with rfl | hx
    · exact h.code
    · exact h.below x hx⟩
theorem Clean.goto {Γ : Ctx} (h : Clean Γ) {c : Code} (hc : cleanC c = true) : Clean (Γ.goto c) := ⟨hc, h.below⟩
section
variable {α β : Type} {M : Model} {A : Around} {E : Value -> Shared -> Prop} {s : Shared}
theorem wpN_any {t : Sem α} {Q : α -> Shared -> Prop} (h : wpAny M A t Q E s) : wpN M A t Q E s := fun Γ p _ hΓ => h Γ p hΓ
theorem codeN_any {c : Code} {R : Result -> Shared -> Prop} (h : codeAny M A c R s) : codeN M A c R s := fun Γ p _ hc hΓ => h Γ p hc hΓ
theorem wpN_bind {m : Sem α} {f : α -> Sem β} {Q : β -> Shared -> Prop} (h : wpN M A m (fun a s' => wpN M A (f a) Q E s') E s) : wpN M A (m >>= f) Q E s := fun Γ p hc hΓ => by
  rw [Sem.wp_bind']
  exact Sem.wp_mono M Γ m (fun a p' s' h' => h' Γ p' hc hΓ) (fun _ _ _ h' => h') p s (h Γ p hc hΓ)
theorem wpN_bindA {m : Sem α} {f : α -> Sem β} {Q : β -> Shared -> Prop} (h : wpAny M A m (fun a s' => wpN M A (f a) Q E s') E s) : wpN M A (m >>= f) Q E s := wpN_bind (wpN_any h)
theorem wpN_mono {t : Sem α} {Q Q' : α -> Shared -> Prop} {E' : Value -> Shared -> Prop} (h : wpN M A t Q E s) (hQ : ∀ a s, Q a s -> Q' a s) (hE : ∀ e s, E e s -> E' e s) : wpN M A t Q' E' s := fun Γ p hc hΓ =>
  Sem.wp_mono M Γ t (fun a _ s' h' => hQ a s' h') (fun e _ s' h' => hE e s' h') p s (h Γ p hc hΓ)
theorem wpN_pure {a : α} {Q : α -> Shared -> Prop} (h : Q a s) : wpN M A (pure a) Q E s := fun _ _ _ _ => h
theorem wpN_holding {vs : List Value} {m : Sem α} {Q : α -> Shared -> Prop} (h : wpN M A m Q E s) : wpN M A (holding vs m) Q E s := fun Γ p hc hΓ => by rw [Sem.wp_holding]; exact h Γ p hc hΓ
theorem wpN_onRaise {m : Sem α} {k : Value -> Sem Unit} {Q : α -> Shared -> Prop} (h : wpN M A m Q (fun e s' => wpAny M A (k e) (fun _ s'' => E e s'') E s') s) : wpN M A (m.onRaise k) Q E s := fun Γ p hc hΓ => by
  rw [Sem.wp_onRaise]
  exact Sem.wp_mono M Γ m (fun _ _ _ h' => h') (fun e p' s' h' => h' Γ p' hΓ) p s (h Γ p hc hΓ)
theorem wpN_run {c : Code} {h : Option Value} {Q : Flow -> Shared -> Prop} (hcl : cleanC c = true)
    (hc : codeN M (A.mark h) c (fun r s' => match r with | .ok f => Q f s' | .error e => E e s') s) (hnb : h ≠ some byPass := by intro x; cases x) : wpN M A (PySem.run c h) Q E s :=
  fun Γ p hC hΓ => by rw [Sem.wp_run]; exact hc _ p (hC.enter hcl h p) rfl (hΓ.enter c h p hnb)
theorem wpN_call {f : Value} {pos : List Value} {kw : List (Str × Value)} {Q : Value -> Shared -> Prop}
    (hc : codeN M A (.call f ⟨pos, kw⟩) (fun r s' => match r with | .ok (.ret v) => Q v s' | .ok _ => False | .error e => E e s') s) : wpN M A (call f pos kw) Q E s := fun Γ p hC hΓ => by
  show Sem.wp M Γ (runValue (.call f ⟨pos, kw⟩)) _ _ p s
  rw [Sem.wp_runValue]; exact hc _ p (hC.enter rfl none p) rfl (hΓ.enter _ none p (by intro x; cases x))
theorem codeN_of_tree {c : Code} {R : Result -> Shared -> Prop}
    (h : wpN M (A.under c) (M.den c) (fun fin s' => match fin with | .done f => R (.ok f) s' | .again c' => c'.quiet = true /\ cleanC c' = true /\ codeN M A c' R s') (fun e s' => R (.error e) s') s) : codeN M A c R s := fun Γ p hC hc hΓ => by
  rw [wpCode_iff_wp, hc]
  refine Sem.wp_mono M Γ _ (fun fin p' s' h' => ?_) (fun _ _ _ h' => h') p s (h Γ p hC (hc ▸ hΓ.in))
  cases fin with
  | done f => exact h'
  | again c' => exact ⟨h'.1, h'.2.2 (Γ.goto c') p' (hC.goto h'.2.1) rfl (hΓ.goto c')⟩
theorem codeN_loop {c : Code} {R : Result -> Shared -> Prop} (hq : c.quiet = true) (hcl : cleanC c = true) (I : Nat -> Shared -> Prop)
    (turn : ∀ n s, I n s -> wpN M (A.under c) (M.den c) (fun fin s' => match fin with
        | .done f => R (.ok f) s'
        | .again c' => (c' = c /\ ∃ m, m < n /\ I m s') \/ (c'.quiet = true /\ cleanC c' = true /\ codeN M A c' R s')) (fun e s' => R (.error e) s') s)
    (n : Nat) (h : I n s) : codeN M A c R s := by
  induction n using Nat.strongRecOn generalizing s with
  | ind n ih =>
    refine codeN_of_tree (wpN_mono (turn n s h) (fun fin s' hf => ?_) fun _ _ h' => h')
    cases fin with
    | done f => exact hf
    | again c' =>
      rcases hf with ⟨rfl, m, hm, hI⟩ | hf
      · exact ⟨hq, hcl, ih m hm hI⟩
      · exact hf
theorem codeN_builtin {prog : Program} {w : World} {id : String} {args : Args} {b : Builtin} {R : Result -> Shared -> Prop} (hb : entryFor table id = some b)
    (h : wpN (model prog w) (A.under (.builtin id args)) (b args) (fun fin s' => match fin with | .done f => R (.ok f) s' | .again c' => c'.quiet = true /\ cleanC c' = true /\ codeN (model prog w) A c' R s') (fun e s' => R (.error e) s') s) :
    codeN (model prog w) A (.builtin id args) R s := by
  refine codeN_of_tree ?_
  show wpN _ _ (match entryFor table id with | some b => b args | none => unsupported ((withoutEnding? id "#data").getD id)) _ _ s
  rw [hb]; exact h
theorem codeN_call_builtin {prog : Program} {w : World} {id : String} {args : Args} {b : Builtin} {R : Result -> Shared -> Prop} (hq : plainId id = true) (hcl : cleanC (.builtin id args) = true) (hb : entryFor table id = some b)
    (h : wpAny (model prog w) A.in1 (checkBuiltinCall id args) (fun _ s₁ => wpN (model prog w) A.in1 (b args) (fun fin s' => match fin with | .done f => R (.ok f) s' | .again c' => c'.quiet = true /\ cleanC c' = true /\ codeN (model prog w) A c' R s') (fun e s' => R (.error e) s') s₁)
      (fun e s' => R (.error e) s') s) : codeN (model prog w) A (.call (.builtin id) args) R s := by
  refine codeN_of_tree ?_
  show wpN _ A.in1 (do checkBuiltinCall id args; again (.builtin id args)) _ _ s
  refine wpN_bindA (wpAny_mono h (fun _ s₁ h₁ => wpN_pure ⟨plainId_quiet hq args, hcl, codeN_builtin hb ?_⟩) fun _ _ q => q)
  rw [Around.under_plainId hq args]; exact h₁
theorem wpN_exported {a : Value} {Q : Bool -> Shared -> Prop} (h : Q false s) : wpN M A (Builtin.Bytes.exported a) Q E s := fun Γ p hC _ => by
  have one : ∀ x : Code × Pos, cleanC x.1 = true -> (match x with
    | (.builtin "bytearray.__contains__" ⟨v :: _, _⟩, _) | (.builtin "bytearray.__mod__" ⟨v :: _, _⟩, _)
    | (.builtin "bytearray.__rmod__" ⟨_ :: v :: _, _⟩, _) | (.builtin "_struct.pack_into.held" ⟨v :: _, _⟩, _) => Builtin.Bytes.sameRef v a
    | (.builtin "bytearray.find.held" ⟨_ :: _ :: held, _⟩, _) => held.any (Builtin.Bytes.sameRef a)
    | (.builtin id ⟨v :: _, _⟩, _) => Builtin.Bytes.sameRef v a && Builtin.Bytes.decodersThatHold.contains id
    | _ => false) = false := by
    intro x hx
    obtain ⟨c, q⟩ := x
    induction c using Code.casesOn with
    | builtin id args =>
      have hc : heldIds.contains id = false := by
        cases z : heldIds.contains id with
        | false => rfl
        | true =>
          have hx : (!heldIds.contains id) = true := hx
          rw [z] at hx
          exact nomatch hx
      have ne : ∀ i, i ∈ heldIds -> id ≠ i := fun i hi e => by
        rw [e, List.contains_iff_mem.mpr hi] at hc
        exact nomatch hc
      have hd : Builtin.Bytes.decodersThatHold.contains id = false := by
        cases z : Builtin.Bytes.decodersThatHold.contains id with
        | false => rfl
        | true => exact (ne id (List.mem_append_right _ (List.contains_iff_mem.mp z)) rfl).elim
      have L : ∀ {i}, i ∈ ["bytearray.__contains__", "bytearray.__mod__", "bytearray.__rmod__", "_struct.pack_into.held", "bytearray.find.held"] -> id ≠ i := fun h => ne _ (List.mem_append_left _ h)
      obtain ⟨pos, kw⟩ := args
      delta Mine.wpN_exported.match_1
      dsimp only
      refine (dif_neg (L (.head _))).trans ?_
      refine (dif_neg (L (.tail _ (.head _)))).trans ?_
      refine (dif_neg (L (.tail _ (.tail _ (.head _))))).trans ?_
      refine (dif_neg (L (.tail _ (.tail _ (.tail _ (.head _)))))).trans ?_
      refine (dif_neg (L (.tail _ (.tail _ (.tail _ (.tail _ (.head _))))))).trans ?_
      induction pos using List.casesOn with
      | nil => rfl
      | cons v r =>
        show (Builtin.Bytes.sameRef v a && Builtin.Bytes.decodersThatHold.contains id) = false
        rw [hd, Bool.and_false]
    | _ => rfl
  have all : (((Γ.code, p) :: Γ.below).any _) = false := List.any_eq_false.mpr fun x hx q => Bool.noConfusion ((one x (by
    rcases List.mem_cons.mp hx with rfl | hx
    · exact hC.code
    · exact hC.below x hx)).symm.trans q)
  exact Eq.mpr (congrArg (fun b => Q b s) all) h
end
theorem ba_mro : mroOf (.type "bytearray") = pure [.type "bytearray", .type "object"] := by rw [mroOf_type]; kernel_rfl
theorem ba_lookup_new : typeLookup (.type "bytearray") "__new__" = pure (some (.builtin "bytearray.__new__")) := by rw [typeLookup_type, builtinLookup_eq_fast]; kernel_rfl
theorem ba_slot_init : Slot "bytearray" "__init__" "bytearray.__init__" :=
  .of (owner := "bytearray") (n := "__init__") (by rw [typeLookup_type, builtinLookup_eq_fast]; kernel_rfl) (by decide +kernel) (by decide +kernel) (by decide +kernel)
    (by first | exact .inl (by decide +kernel) | exact .inr (by decide +kernel)) (by rw [isSubtype_type]; kernel_rfl)
theorem ba_sub : isSubtype (.type "bytearray") (.type "bytearray") = pure true := by rw [isSubtype_type]; kernel_rfl
theorem ba_called : TypeCalled "bytearray" "bytearray.__new__" "bytearray.__init__" :=
  ⟨by decide +kernel, by decide +kernel, ⟨_, _, ba_mro⟩, madeBy_type ba_mro ba_lookup_new (by decide +kernel), by decide +kernel, ba_sub, ba_slot_init⟩
theorem ba_typeCall : checkTypeCall "bytearray" ⟨[], []⟩ = pure () := by kernel_rfl
theorem ba_newCall : checkBuiltinCall "bytearray.__new__" ⟨[.type "bytearray"], []⟩ = pure () := by kernel_rfl
theorem ba_entry_new : entryFor table "bytearray.__new__" = some Builtin.«list.__new__» :=
  entryFor_alias (id' := "list.__new__") (by kernel_rfl) (by first | rfl | decide +kernel | (unfold String.splitOn; simp +decide [String.splitOnAux])) (by decide +kernel) (by kernel_rfl)
theorem ba_plain_new : plainId "bytearray.__new__" = true := by decide +kernel
theorem ba_plain_init : plainId "bytearray.__init__" = true := by decide +kernel
theorem ba_entry_init : entryFor table "bytearray.__init__" = some Builtin.«bytearray.__init__» := by first | exact entryFor_of_fast (by kernel_rfl) | exact entryFor_of_tree (by kernel_rfl)
set_option maxRecDepth 1000000 in
set_option maxHeartbeats 4000000 in
theorem ba_owner : ("bytearray.__new__".splitOn ".__new__").headD "" = "bytearray" := by simp +decide [String.splitOn, String.splitOnAux]
theorem ba_rel : typeLookup (.type "bytearray") "__release_buffer__" = pure (some (.builtin "bytearray.__release_buffer__")) := by rw [typeLookup_type, builtinLookup_eq_fast]; kernel_rfl
theorem ba_bind0 : Builtin.Bytes.bindOptional "bytearray.__init__" "bytearray" ["source", "encoding", "errors"] [] [] = pure [none, none, none] := by kernel_rfl
theorem ba_ends : ("bytearray.__release_buffer__" : String).endsWith ("." ++ "__release_buffer__") = true := by decide +kernel
theorem ba_drop : ("bytearray.__release_buffer__" : String).dropRight (("__release_buffer__" : String).length + 1) = "bytearray" := by decide +kernel
noncomputable abbrev baObj (b : List UInt8) : Obj := { cls := .type "bytearray", data := .bytearray b.toArray }
section
variable {prog : Program} {w : World} {A : Around} {E : Value -> Shared -> Prop} {s : Shared} {R : Result -> Shared -> Prop}
theorem ba_new {Q₁ : Value -> Shared -> Prop} (h : Q₁ (.ref s.heap.objs.size) { s with heap := s.heap.push (baObj []) }) :
    codeAny (model prog w) A (.call (.builtin "bytearray.__new__") ⟨[.type "bytearray"], []⟩) (wants Q₁ E) s := by
  refine codeAny_of_tree ?_
  show wpAny _ A.in1 (do checkBuiltinCall "bytearray.__new__" ⟨[.type "bytearray"], []⟩; again (.builtin "bytearray.__new__" ⟨[.type "bytearray"], []⟩)) _ _ s
  refine wpAny_bind (wpAny_of_eq ba_newCall (wpAny_pure ⟨plainId_quiet ba_plain_new _, codeAny_builtin_stack ba_entry_new rfl fun p st => ?_⟩))
  rw [Around.under_plainId ba_plain_new _]
  have hsub := ba_sub
  have hown := ba_owner
  obtain ⟨hp, g, d, tk, os⟩ := s
  simp only [hown]
  wp_walk
  exact h
theorem ba_own {M : Model} {h : Heap} {a : Addr} {b : List UInt8} (ha : h.get? a = some (baObj b)) : Looks M h (Builtin.Bytes.ownRelease (.ref a)) false := by
  have L0 : Looks M h (typeOf (.ref a)) (.type "bytearray") := (Looks.ld ha).andThen .now
  have L1 : Looks M h (specialOf (.ref a) ("__release_buffer__" : String)) (some (.builtin "bytearray.__release_buffer__")) := L0.andThen (Looks.of_pure ba_rel)
  have L2 : Looks M h (Builtin.Bytes.slotIsOwn (.ref a) "__release_buffer__") true := by
    unfold Builtin.Bytes.slotIsOwn
    refine L1.andThen ?_
    dsimp only
    rw [ba_ends, ba_drop]
    exact L0.andThen (Looks.of_pure ba_sub)
  exact L2.andThen .now
theorem ba_exp {M : Model} {h : Heap} {a : Addr} {b : List UInt8} (ha : h.get? a = some (baObj b)) : Looks M h (Builtin.Bytes.exportsOf (.ref a)) 0 := (Looks.ld (part := none) ha).andThen .now
theorem ba_write {M : Model} {a : Addr} {b b' : List UInt8} {f : Array UInt8 -> Array UInt8} {Q : Unit -> Shared -> Prop} (ha : s.heap.get? a = some (baObj b)) (hf : f b.toArray = b'.toArray) (hz : b'.length <= sizeLine)
    (h : ∀ h', h'.get? a = some (baObj b') -> Heap.SameBut a s.heap h' -> Q () { s with heap := h' }) : wpAny M A (Builtin.Bytes.write (.ref a) f) Q E s := by
  show wpAny _ _ (updateBytearray a f) _ _ _
  unfold updateBytearray
  refine wpAny_bind (wpAny_load ha ?_)
  show wpAny _ _ (update a (Obj.mapBytearray f) >>= fun _ => lookBehind a) _ _ _
  refine wpAny_bind (wpAny_update ha ?_)
  have h2 : (s.heap.update a (Obj.mapBytearray f)).get? a = some (baObj b') := by
    have := Heap.get?_update_self (Obj.mapBytearray f) ha rfl
    rw [this]
    show some ({ cls := .type "bytearray", data := .bytearray (f b.toArray) } : Obj) = _
    rw [hf]
  refine wpAny_lookBehind h2 ?_ (h _ h2 (Heap.SameBut.update ..))
  show (if b'.toArray.size > sizeLine then some "bytearray:memory" else none) = none
  rw [if_neg]
  rw [List.size_toArray]; omega
theorem ba_init {a : Addr} {Q : Value -> Shared -> Prop} (ha : s.heap.get? a = some (baObj []))
    (h : ∀ h', h'.get? a = some (baObj []) -> Heap.SameBut a s.heap h' -> Q .none { s with heap := h' }) :
    codeN (model prog w) A (.call (.builtin "bytearray.__init__") ⟨[.ref a], []⟩) (wants Q E) s := by
  have hT : s.TypeIs (.ref a) "bytearray" := ⟨_, ha, rfl⟩
  refine codeN_call_builtin ba_plain_init (by kernel_rfl) ba_entry_init (ba_slot_init.check _ _ _ _ _ _ _ _ hT (by unfold argsOk; kernel_rfl) ?_)
  unfold Builtin.«bytearray.__init__»
  refine wpN_bindA ((ba_own ha).here ?_)
  dsimp only
  rw [if_neg (by decide)]
  refine wpN_bindA (wpAny_of_eq ba_bind0 ?_)
  dsimp only
  refine wpN_bindA (wpAny_of_eq (a := ()) rfl (wpN_bindA (wpAny_of_eq (a := ()) rfl ?_)))
  refine wpN_bind (wpN_bind (wpN_exported ?_))
  refine wpN_any (wpAny_bind ((ba_exp ha).here (wpAny_pure ?_)))
  rw [if_neg (by decide)]
  refine wpN_any (wpAny_bind (ba_write ha (b' := []) rfl (by simp [sizeLine_eq]) fun h' h1 h2 => ?_))
  exact wpAny_pure (h h' h1 h2)
theorem ba_make {Q : Value -> Shared -> Prop} (h : ∀ h', h'.get? s.heap.objs.size = some (baObj []) -> (∀ b o, s.heap.get? b = some o -> h'.get? b = some o) -> h'.objs.size = s.heap.objs.size + 1 -> Q (.ref s.heap.objs.size) { s with heap := h' }) :
    wpN (model prog w) A (call (.type "bytearray") []) Q E s := by
  refine wpN_call (codeN_of_tree ?_)
  show wpN _ _ (callAny (.type "bytearray") _) _ _ _
  refine wpN_pure ⟨Code.quiet_builtin _ (by decide +kernel), by kernel_rfl, codeN_builtin entry_typeCall ?_⟩
  rw [Around.under_plain (weight_type_call_type "bytearray" [] []) rfl]
  unfold Builtin.«type.__call__»
  dsimp only
  rw [if_neg (by decide), if_neg (by rw [ba_called.canCreate]; decide)]
  refine wpN_bindA (wpAny_of_eq ba_typeCall (wpN_bindA (wpAny_of_eq ba_mro ?_)))
  rw [if_neg (by decide)]
  refine wpN_bindA (wpAny_of_eq ba_called.made ?_)
  dsimp only
  refine wpN_bindA (wpAny_pure (wpN_bindA (wpAny_holding (wpAny_call (ba_new ?_)))))
  have ha : (s.heap.push (baObj [])).get? s.heap.objs.size = some (baObj []) := Heap.get?_push_size _ rfl
  have hT : ({ s with heap := s.heap.push (baObj []) } : Shared).TypeIs (.ref s.heap.objs.size) "bytearray" := ⟨_, ha, rfl⟩
  refine wpN_bindA (wpAny_isInstance hT ba_sub ?_)
  rw [if_neg (by decide)]
  refine wpN_bind (wpN_holding ?_)
  unfold callSpecial?
  refine wpN_bindA (wpAny_specialOf hT ba_slot_init.lookup (wpN_holding ?_))
  refine wpN_bindA (wpAny_of_eq (ba_slot_init.bind _) (wpN_bind (wpN_call (ba_init (s := { s with heap := s.heap.push (baObj []) }) ha fun h' h1 h2 => ?_))))
  refine wpN_pure ?_
  dsimp only
  rw [if_neg (by decide)]
  refine wpN_pure ?_
  exact h h' h1 (fun b o e => h2.extBut _ _ (Nat.ne_of_lt (Heap.lt_size e)) (Heap.get?_push_of_some _ e)) (by rw [h2.1]; exact Heap.size_push ..)
end
theorem by_buf : typeLookup (.type "bytes") "__buffer__" = pure (some (.builtin "bytes.__buffer__")) := by rw [typeLookup_type, builtinLookup_eq_fast]; kernel_rfl
theorem by_rel : typeLookup (.type "bytes") "__release_buffer__" = pure none := by rw [typeLookup_type, builtinLookup_eq_fast]; kernel_rfl
theorem by_ends : ("bytes.__buffer__" : String).endsWith ("." ++ "__buffer__") = true := by decide +kernel
theorem by_drop : ("bytes.__buffer__" : String).dropRight (("__buffer__" : String).length + 1) = "bytes" := by decide +kernel
theorem ba_buf : typeLookup (.type "bytearray") "__buffer__" = pure (some (.builtin "bytearray.__buffer__")) := by rw [typeLookup_type, builtinLookup_eq_fast]; kernel_rfl
theorem ba_bends : ("bytearray.__buffer__" : String).endsWith ("." ++ "__buffer__") = true := by decide +kernel
theorem ba_bdrop : ("bytearray.__buffer__" : String).dropRight (("__buffer__" : String).length + 1) = "bytearray" := by decide +kernel
theorem ba_ga : typeLookup (.type "bytearray") "__getattribute__" = pure (some (.builtin "bytearray.__getattribute__")) := by rw [typeLookup_type, builtinLookup_eq_fast]; kernel_rfl
theorem ba_gt : typeLookup (.type "bytearray") "__getattr__" = pure none := by rw [typeLookup_type, builtinLookup_eq_fast]; kernel_rfl
theorem ba_extl : typeLookup (.type "bytearray") "extend" = pure (some (.builtin "bytearray.extend")) := by rw [typeLookup_type, builtinLookup_eq_fast]; kernel_rfl
theorem ba_extt : typeOf (.builtin "bytearray.extend") = pure (.type "method_descriptor") := by show builtinType _ = _; rw [builtinType_eq_fast]; kernel_rfl
theorem ba_canon : (Manifest.canonical "bytearray.__getattribute__" != "object.__getattribute__") = false := by decide +kernel
theorem ba_plain_ext : plainId "bytearray.extend" = true := by decide +kernel
theorem ba_entry_ext : entryFor table "bytearray.extend" = some Builtin.«bytearray.extend» := by first | exact entryFor_of_fast (by kernel_rfl) | exact entryFor_of_tree (by kernel_rfl)
theorem ba_nobytes : typeLookup (.type "bytearray") "__bytes__" = pure none := by rw [typeLookup_type, builtinLookup_eq_fast]; kernel_rfl
theorem ba_noindex : typeLookup (.type "bytearray") "__index__" = pure none := by rw [typeLookup_type, builtinLookup_eq_fast]; kernel_rfl
theorem ba_kind_ext : builtinKind "bytearray.extend" = some .method := by decide +kernel
theorem ba_split_ext : splitId "bytearray.extend" = some ("bytearray", "extend") := by decide +kernel
theorem ba_args_ext (a b : Value) : argsOk "bytearray.extend" ⟨[a, b], []⟩ := by unfold argsOk; kernel_rfl
theorem ba_clean_ext (args : Args) : cleanC (.builtin "bytearray.extend" args) = true := by kernel_rfl
section
variable {prog : Program} {w : World} {A : Around} {E : Value -> Shared -> Prop} {s : Shared} {R : Result -> Shared -> Prop}
theorem by_own {M : Model} {h : Heap} {b : Array UInt8} {t : Tok} : Looks M h (Builtin.Bytes.slotIsOwn (.bytes b t) "__buffer__") true := by
  have L1 : Looks M h (specialOf (.bytes b t) ("__buffer__" : String)) (some (.builtin "bytes.__buffer__")) := (Looks.now).andThen (Looks.of_pure by_buf)
  unfold Builtin.Bytes.slotIsOwn
  refine L1.andThen ?_
  dsimp only
  rw [by_ends, by_drop]
  exact (Looks.now).andThen (Looks.of_pure PySem.F.bm_sub)
theorem by_norel {M : Model} {h : Heap} {b : Array UInt8} {t : Tok} : Looks M h (Builtin.Bytes.ownRelease (.bytes b t)) false := by
  have L1 : Looks M h (specialOf (.bytes b t) ("__release_buffer__" : String)) none := (Looks.now).andThen (Looks.of_pure by_rel)
  have L2 : Looks M h (Builtin.Bytes.slotIsOwn (.bytes b t) "__release_buffer__") true := by
    unfold Builtin.Bytes.slotIsOwn
    exact L1.andThen .now
  exact L2.andThen .now
theorem by_buffer {M : Model} {h : Heap} {b : Array UInt8} {t : Tok} {id : String} {f : Bool} : Looks M h (Builtin.Bytes.buffer? id (.bytes b t) f) (some b) := by
  have L1 : Looks M h (specialOf (.bytes b t) "__buffer__") (some (.builtin "bytes.__buffer__")) := (Looks.now).andThen (Looks.of_pure by_buf)
  unfold Builtin.Bytes.buffer?
  refine L1.andThen ?_
  dsimp only
  refine by_own.andThen ?_
  rw [if_neg (by decide)]
  refine L1.andThen ?_
  refine by_norel.andThen ?_
  rw [if_neg (by decide)]
  exact (Looks.now).andThen .now
theorem by_take {M : Model} {h : Heap} {b : Array UInt8} {t : Tok} {id : String} {k : Int} : Looks M h (Builtin.Bytes.takeBuffer? id (.bytes b t) k) (some (b, none)) := by
  have L1 : Looks M h (specialOf (.bytes b t) "__buffer__") (some (.builtin "bytes.__buffer__")) := (Looks.now).andThen (Looks.of_pure by_buf)
  unfold Builtin.Bytes.takeBuffer?
  refine L1.andThen ?_
  dsimp only
  refine by_own.andThen ?_
  rw [if_neg (by decide)]
  refine L1.andThen ?_
  exact by_buffer.andThen .now
theorem ba_payload {M : Model} {h : Heap} {a : Addr} {b : List UInt8} (ha : h.get? a = some (baObj b)) : Looks M h (Builtin.Bytes.payload (.ref a)) b.toArray := ((Looks.ld (part := none) ha).andThen .now).andThen .now
theorem gm_extend {M : Model} {a : Addr} {b : List UInt8} {pl : Sem Bool} {Q : Value × List Value -> Shared -> Prop} (ha : s.heap.get? a = some (baObj b)) (h : Q (.builtin "bytearray.extend", [.ref a]) s) : wpAny M A (getMethod (.ref a) "extend" pl) Q E s := by
  have L0 : Looks M s.heap (typeOf (.ref a)) (.type "bytearray") := (Looks.ld ha).andThen .now
  have L1 : Looks M s.heap (specialOf (.ref a) "__getattribute__") (some (.builtin "bytearray.__getattribute__")) := L0.andThen (Looks.of_pure ba_ga)
  have L2 : Looks M s.heap (specialOf (.ref a) "__getattr__") none := L0.andThen (Looks.of_pure ba_gt)
  have L3 : Looks M s.heap (specialOf (.ref a) "extend") (some (.builtin "bytearray.extend")) := L0.andThen (Looks.of_pure ba_extl)
  unfold getMethod
  refine wpAny_bind (L1.here ?_)
  dsimp only
  rw [ba_canon, if_neg (by decide)]
  refine wpAny_bind (L2.here ?_)
  rw [if_neg (by decide)]
  refine wpAny_bind (L3.here ?_)
  dsimp only
  refine wpAny_bind (wpAny_of_eq ba_extt ?_)
  rw [if_neg (by decide)]
  refine wpAny_bind (wpAny_loadPart ha ?_)
  dsimp only
  exact wpAny_bind (wpAny_rule (wpAny_pure h))
theorem ba_extend {a : Addr} {b c : List UInt8} {t : Tok} {Q : Value -> Shared -> Prop} (ha : s.heap.get? a = some (baObj b)) (hz : b.length + c.length <= sizeLine)
    (h : ∀ h', h'.get? a = some (baObj (b ++ c)) -> Heap.SameBut a s.heap h' -> Q .none { s with heap := h' }) : wpN (model prog w) A (call (.builtin "bytearray.extend") [.ref a, .bytes c.toArray t]) Q E s := by
  refine wpN_call (codeN_call_builtin ba_plain_ext (ba_clean_ext _) ba_entry_ext ?_)
  have L0 : Looks (model prog w) s.heap (typeOf (.ref a)) (.type "bytearray") := (Looks.ld ha).andThen .now
  refine @kfo_check (model prog w) _ _ s "bytearray.extend" "bytearray" "extend" (.ref a) [.bytes c.toArray t] [] _ ba_kind_ext ba_split_ext (L0.andThen (Looks.of_pure ba_sub)) (ba_args_ext (.ref a) (.bytes c.toArray t)) ?_
  unfold Builtin.«bytearray.extend»
  refine wpN_bindA (wpAny_of_eq (a := (.ref a, .bytes c.toArray t)) rfl ?_)
  dsimp only
  have L1 : Looks (model prog w) s.heap (specialOf (.bytes c.toArray t) "__buffer__") (some (.builtin "bytes.__buffer__")) := (Looks.now).andThen (Looks.of_pure by_buf)
  refine wpN_bindA (L1.here ?_)
  rw [if_pos (show (some (Value.builtin "bytes.__buffer__")).isSome = true from rfl)]
  refine wpN_bindA (wpAny_rule (wpN_bindA ((ba_payload ha).here (wpN_bindA ?_))))
  unfold Builtin.Bytes.takeBufferQuiet?
  refine wpAny_bind (wpAny_attempt (by_take.here (wpAny_pure ?_)))
  dsimp only
  rw [if_pos (show (none : Option Value).isNone = true from rfl)]
  have fin : wpAny (model prog w) A.in1 (do
      Builtin.Bytes.write (.ref a) (· ++ c.toArray)
      ret .none) (fun fin s' => match fin with
      | .done f => (match (.ok f : Result) with | .ok (.ret v) => Q v s' | .ok _ => False | .error e => E e s')
      | .again c' => c'.quiet = true /\ cleanC c' = true /\ codeN (model prog w) A c' (fun r s' => match r with | .ok (.ret v) => Q v s' | .ok _ => False | .error e => E e s') s') (fun e s' => E e s') s := by
    refine wpAny_bind (ba_write ha (b' := b ++ c) (by simp) (by rw [List.length_append]; exact hz) fun h' h1 h2 => ?_)
    exact wpAny_pure (h h' h1 h2)
  show wpN _ _ (do
      if !c.toArray.isEmpty then Builtin.Bytes.checkResize (.ref a)
      Builtin.Bytes.write (.ref a) (· ++ c.toArray)
      ret .none) _ _ _
  split
  · refine wpN_bind ?_
    unfold Builtin.Bytes.checkResize
    refine wpN_bind (wpN_bind (wpN_exported ?_))
    refine wpN_any (wpAny_bind ((ba_exp ha).here (wpAny_pure ?_)))
    rw [if_neg (by decide)]
    exact wpN_pure (wpN_any fin)
  · exact wpN_any fin
theorem ba_bown {M : Model} {h : Heap} {a : Addr} {b : List UInt8} (ha : h.get? a = some (baObj b)) : Looks M h (Builtin.Bytes.slotIsOwn (.ref a) "__buffer__") true := by
  have L0 : Looks M h (typeOf (.ref a)) (.type "bytearray") := (Looks.ld ha).andThen .now
  have L1 : Looks M h (specialOf (.ref a) ("__buffer__" : String)) (some (.builtin "bytearray.__buffer__")) := L0.andThen (Looks.of_pure ba_buf)
  unfold Builtin.Bytes.slotIsOwn
  refine L1.andThen ?_
  dsimp only
  rw [ba_bends, ba_bdrop]
  exact L0.andThen (Looks.of_pure ba_sub)
theorem ba_buffer {M : Model} {h : Heap} {a : Addr} {b : List UInt8} {id : String} {f : Bool} (ha : h.get? a = some (baObj b)) : Looks M h (Builtin.Bytes.buffer? id (.ref a) f) (some b.toArray) := by
  have L0 : Looks M h (typeOf (.ref a)) (.type "bytearray") := (Looks.ld ha).andThen .now
  have L1 : Looks M h (specialOf (.ref a) "__buffer__") (some (.builtin "bytearray.__buffer__")) := L0.andThen (Looks.of_pure ba_buf)
  unfold Builtin.Bytes.buffer?
  refine L1.andThen ?_
  dsimp only
  refine (ba_bown ha).andThen ?_
  rw [if_neg (by decide)]
  refine L1.andThen ?_
  refine (ba_own ha).andThen ?_
  rw [if_neg (by decide)]
  exact (ba_payload ha).andThen .now
theorem ba_bnew {a : Addr} {b : List UInt8} {Q : Value -> Shared -> Prop} (ha : s.heap.get? a = some (baObj b)) (hz : b.length <= sizeLine)
    (h : ∀ t k, Q (.bytes b.toArray t) { s with toks := k }) : codeAny (model prog w) A (.call (.builtin "bytes.__new__") ⟨[.type "bytes", .ref a], []⟩) (wants Q E) s := by
  refine codeAny_of_tree ?_
  show wpAny _ A.in1 (do checkBuiltinCall "bytes.__new__" ⟨[.type "bytes", .ref a], []⟩; again (.builtin "bytes.__new__" ⟨[.type "bytes", .ref a], []⟩)) _ _ s
  refine wpAny_bind (wpAny_of_eq (PySem.F.bm_newCall _) (wpAny_pure ⟨plainId_quiet PySem.F.bm_plain _, codeAny_builtin PySem.F.bm_entry ?_⟩))
  rw [Around.under_plainId PySem.F.bm_plain _]
  have hT : s.TypeIs (.ref a) "bytearray" := ⟨_, ha, rfl⟩
  unfold Builtin.«bytes.__new__»
  refine wpAny_bind (wpAny_of_eq (a := true) rfl ?_)
  refine bm_if_false rfl ?_
  refine wpAny_bind (wpAny_of_eq PySem.F.bm_sub ?_)
  refine bm_if_false rfl ?_
  refine wpAny_bind (wpAny_of_eq (PySem.F.bm_bind _) ?_)
  refine wpAny_bind (wpAny_of_eq (a := ()) rfl ?_)
  refine wpAny_bind (wpAny_of_eq (a := ()) rfl ?_)
  refine bm_if_false rfl ?_
  refine wpAny_bind (wpAny_specialOf hT ba_nobytes ?_)
  refine wpAny_bind (wpAny_bind ?_)
  show wpAny _ _ (load a >>= _) _ _ _
  refine wpAny_bind (wpAny_load ha ?_)
  refine wpAny_pure (wpAny_pure ?_)
  refine bm_if_false rfl ?_
  refine wpAny_bind (wpAny_specialOf hT ba_noindex ?_)
  refine bm_if_true rfl ?_
  first
    | show wpAny _ _ (Builtin.Bytes.buffer? "bytes.__new__" (.ref a) true >>= _) _ _ _
    | (refine wpAny_bind ?_; show wpAny _ _ (Builtin.Bytes.buffer? "bytes.__new__" (.ref a) true >>= _) _ _ _)
  refine wpAny_bind ((ba_buffer ha).here ?_)
  refine wpAny_bind (wpAny_rule (wpAny_bind (wpAny_mkBytes ?_ (by rw [List.size_toArray]; exact hz))))
  show wpAny _ _ (if (Value.type "bytes" == Value.type "bytes") = true then _ else _) _ _ _
  refine bm_if_true (by decide) ?_
  first
    | exact wpAny_pure (h _ _)
    | exact wpAny_bind (wpAny_pure (wpAny_pure (h _ _)))
theorem ba_tobytes {a : Addr} {b : List UInt8} {Q : Value -> Shared -> Prop} (ha : s.heap.get? a = some (baObj b)) (hz : b.length <= sizeLine)
    (h : ∀ t k, Q (.bytes b.toArray t) { s with toks := k }) : wpAny (model prog w) A (call (.type "bytes") [.ref a]) Q E s := by
  refine callType_codes (Q₁ := fun obj s₁ => s₁.TypeIs obj "bytes" /\ Q obj s₁) PySem.F.bm_called (PySem.F.bm_typeCall _) PySem.F.entry_object_init
    (ba_bnew ha hz fun t k => ⟨PySem.W.typeIs_bytes _ _ _, h t k⟩) fun obj s₁ h₁ => ?_
  exact ⟨h₁.1, PySem.F.args_object_init_2 obj _, object_init_meets PySem.F.bm_called.init.lookup PySem.F.bm_called.made (by decide) prog w A.in1 _ s₁ ⟨h₁.1, rfl, h₁.2⟩⟩
end
section
variable {prog : Program} {w : World} {A : Around} {E : Value -> Shared -> Prop} {s : Shared} {R : Result -> Shared -> Prop} {env : Env}
theorem wpN_execs_cons {M : Model} {st : Stmt} {rest : List Stmt} {Q : Flow -> Shared -> Prop}
    (h : wpN M A (exec st env) (fun f s' => match f with | .next => wpN M A (execs rest env) Q E s' | f => Q f s') E s) : wpN M A (execs (st :: rest) env) Q E s := fun Γ p hC hΓ => by
  rw [execs_cons, Sem.wp_bind']
  refine Sem.wp_mono M Γ _ (fun f p' s' h' => ?_) (fun _ _ _ h' => h') _ _ (h Γ p hC hΓ)
  cases f <;> first | exact h' Γ p' hC hΓ | exact h'
theorem wpN_Assign_Name {M : Model} {x : Str} {pos' pos : Pos} {value : Expr} {Q : Flow -> Shared -> Prop}
    (h : wpN M A (eval value env) (fun v s₁ => wpAny M A (storeName env x v) (fun _ => Q .next) E s₁) E s)
    (hs : swapsWith value (some (.Name x pos')) pos.line env = pure false := by rfl) : wpN M A (exec (.Assign [.Name x pos'] value pos) env) Q E s := fun Γ p hC hΓ => by
  simp only [exec_Assign_Name env x pos' value pos hs, Sem.wp_bind', Sem.wp_cmd_standAt, Sem.wp_bindName, Sem.wp_pure']
  exact Sem.wp_mono M Γ _ (fun v _ s₁ h₁ => h₁ Γ _ hΓ) (fun _ _ _ h' => h') _ _ (h Γ _ hC hΓ)
theorem wpN_Return_some {M : Model} {e : Expr} {pos : Pos} {Q : Flow -> Shared -> Prop} (h : wpN M A (eval e env) (fun v => Q (.ret v)) E s) : wpN M A (exec (.Return (some e) pos) env) Q E s := fun Γ p hC hΓ => by
  simp only [exec_Return_some, Sem.wp_bind', Sem.wp_cmd_standAt, Sem.wp_pure']; exact h Γ _ hC hΓ
theorem wpN_Compare1 {M : Model} {l r : Expr} {op : CmpOp} {pos : Pos} {Q : Value -> Shared -> Prop}
    (h : wpN M A (eval l env) (fun a s₁ => wpAny M A (eval r env) (fun b s₂ => wpAny M A (compareOp op a b) Q E s₂) E s₁) E s)
    (hm : behindInMarks op r = false := by with_unfolding_all rfl) : wpN M A (eval (.Compare l [op] [r] pos) env) Q E s := fun Γ p hC hΓ => by
  simp only [eval_Compare1, markedBehindIn_of_false hm, Sem.wp_bind', Sem.wp_holding, Sem.wp_cmd_standAt, Sem.wp_operate]
  exact Sem.wp_mono M Γ _ (fun a p₁ s₁ h₁ => Sem.wp_mono M Γ _ (fun b _ s₂ h₂ => h₂ Γ _ hΓ) (fun _ _ _ h' => h') _ _ (h₁ Γ p₁ hΓ)) (fun _ _ _ h' => h') _ _ (h Γ p hC hΓ)
theorem wpN_Expr_any {e : Expr} {pos : Pos} {Q : Flow -> Shared -> Prop} (h : wpN (model prog w) A (eval e env) (fun _ => Q .next) E s)
    (hi : interactive env = false := by rfl) (hs : swapsWith e none pos.line env = pure false := by rfl) : wpN (model prog w) A (exec (.Expr e pos) env) Q E s := by
  rw [exec_Expr env e pos hi hs]
  exact wpN_bindA (wpAny_standAt (wpN_bind (wpN_mono h (fun v s' h' => wpN_any (wpAny_dropValue h')) fun _ _ x => x)))
theorem wpN_Call_ofName {M : Model} {x : Str} {np pos : Pos} {args : List Expr} {keywords : List Keyword} {Q : Value -> Shared -> Prop}
    (h : wpAny M A (eval (.Name x np) env) (fun f s₁ => wpN M A (callWith pos f [] (backTo pos (starEach args env)) (backToKw pos (keywordEach keywords env))) Q E s₁) E s) :
    wpN M A (eval (.Call (.Name x np) args keywords pos) env) Q E s := by
  show wpN M A (do callWith pos (<- eval (.Name x np) env) [] (backTo pos (starEach args env)) (backToKw pos (keywordEach keywords env))) Q E s
  exact wpN_bindA h
theorem callWithN {M : Model} {f : Value} {first : List Value} {args : List Expr} {pos : Pos} {P : Heap -> Prop} {Q : Value -> Shared -> Prop} (h0 : args.any isStar = false)
    (hk : ∀ h, P h -> ∃ k, (k = Keeper.frame \/ k = Keeper.machine \/ k = Keeper.boundFrame) /\ Looks M h (keeperOf f) k)
    (h : wpAny M A (spliced (backTo pos (starEach args env))) (fun vs s' => P s'.heap /\ wpN M A (call f (first ++ vs)) Q E s') E s) :
    wpN M A (callWith pos f first (backTo pos (starEach args env)) (backToKw pos (keywordEach [] env))) Q E s := by
  have hplain : ((backTo pos (starEach args env)).any (·.1) || (backToKw pos (keywordEach [] env)).any (·.1.isNone)) = false := by rw [starEach_any env pos h0]; rfl
  unfold callWith
  refine wpN_bindA (wpAny_holding (evalArgs_any h0 (wpAny_mono h (fun vs s₁ h₁ => wpN_bindA (wpAny_standAt ?_)) fun _ _ x => x)))
  obtain ⟨k, hk', L⟩ := hk _ h₁.1
  simp only [hplain]
  refine wpN_bindA (L.here ?_)
  have tail : ∀ {t : Sem Value}, wpN M A t Q E s₁ -> wpN M A (t >>= fun r => holding [r] point >>= fun _ => pure r) Q E s₁ :=
    fun ht => wpN_bind (wpN_mono ht (fun r s₂ hr => wpN_any (wpAny_bind (wpAny_holding (wpAny_point (wpAny_pure hr))))) fun _ _ x => x)
  have marked (mk : Value) : wpN M A (callMarked mk f (first ++ vs) []) Q E s₁ := by
    unfold callMarked
    intro Γ p hC hΓ
    rw [Sem.wp_keep]
    exact h₁.2 Γ p hC hΓ
  rcases hk' with rfl | rfl | rfl <;> dsimp only <;> first | exact tail h₁.2 | (split <;> first | exact tail h₁.2 | exact tail (marked _))
theorem methN {M : Model} {o : Expr} {name : Str} {apos pos : Pos} {args : List Expr} {Q : Value -> Shared -> Prop}
    (hbase : isNull o = false) (hline : (apos.endLine == pos.line) = true) (hs : args.any isStar = false) (hn : args.length < 30)
    (h : wpAny M A (eval o env) (fun ov s₁ => wpAny M A (getMethod ov name (do return (<- importBound o env).getD true)) (fun fx s₂ =>
      wpN M A (callWith pos fx.1 fx.2 (backTo pos (starEach args env)) (backToKw pos (keywordEach [] env))) Q E s₂) E s₁) E s) :
    wpN M A (eval (.Call (.Attribute o name apos) args [] pos) env) Q E s := by
  rw [arm_eval_Call, base_null hbase]
  refine wpN_bindA (wpAny_mono h (fun ov s₁ h₁ => wpN_bindA (wpAny_standAt ?_)) fun _ _ e => e)
  have hform : methodCallForm (args.length + ([] : List Keyword).length) (backTo pos (starEach args env)) (backToKw pos (keywordEach [] env)) = true := by
    unfold methodCallForm
    have h1 : (backTo pos (starEach args env)).all (fun x => !x.1) = true := by
      rw [List.all_eq_true]
      intro x hx
      have := List.any_eq_false.mp (starEach_any env pos hs) x hx
      simpa using this
    rw [h1]
    have h2 : (backToKw pos (keywordEach [] env)) = [] := rfl
    rw [h2]
    simp
    omega
  unfold methodCall
  rw [hform]
  have hpos : methodCallPos true o env apos pos = pure pos := by unfold methodCallPos; simp [hline]
  refine wpN_bindA (wpAny_holding ?_)
  exact wpAny_mono h₁ (fun fx s₂ q => wpN_bindA (wpAny_of_eq hpos q)) fun _ _ e => e
theorem wpN_runOwn {M : Model} {c : Code} {h : Option Value} {Q : Flow -> Shared -> Prop} (hcl : cleanC c = true)
    (hc : codeN M (A.mark h) c (fun r s' => match r with | .ok f => Q f s' | .error e => cameBackBy M A env E e s') s) (hnb : h ≠ some byPass := by intro x; cases x) :
    wpN M A (runOwn c env h) Q E s := by
  unfold runOwn
  exact wpN_onRaise (wpN_run hcl hc hnb)
theorem wpN_For {target iter : Expr} {body orelse : List Stmt} {pos : Pos} {Q : Flow -> Shared -> Prop}
    (h : wpAny (model prog w) A (eval iter env) (fun x s₁ => wpAny (model prog w) A (pyIter x) (fun it s₂ =>
      codeN (model prog w) A (.forLoop target it body orelse env) (fun r s' => match r with | .ok f => Q f s' | .error e => cameBackBy (model prog w) A env E e s') s₂) E s₁) E s)
    (hs : ∀ x, foldedSetIterable iter env x = pure x := by intro _; rfl) : wpN (model prog w) A (exec (.For target iter body orelse pos) env) Q E s := by
  rw [exec_For]
  exact wpN_bindA (wpAny_standAt (wpN_bindA (wpAny_mono h (fun x s₁ h₁ => wpN_bindA (wpAny_of_eq (hs x) (wpN_bindA (wpAny_standAt (wpN_bindA (wpAny_holding
    (wpAny_mono h₁ (fun it s₂ h₂ => wpN_runOwn rfl h₂) fun _ _ h' => h'))))))) fun _ _ h' => h')))
theorem for_loopN {target : Expr} {body : List Stmt} {it : Value} (I : Nat -> Shared -> Prop)
    (turn : ∀ n s, I n s -> wpAny (model prog w) A (pyNext it) (fun r s₁ => match r with
      | none => R (.ok .next) s₁
      | some v => wpAny (model prog w) A (letOwnedTupleGo target it v) (fun _ s₁' => wpAny (model prog w) A (assign target env v) (fun _ s₂ => wpN (model prog w) A (execs body env) (fun f s₃ => match f with
          | .next | .cont => ∃ m, m < n /\ I m s₃
          | .brk => R (.ok .next) s₃
          | .ret v => R (.ok (.ret v)) s₃) (notedBy (model prog w) A env fun e s' => R (.error e) s') s₂) (notedBy (model prog w) A env fun e s' => R (.error e) s') s₁') (notedBy (model prog w) A env fun e s' => R (.error e) s') s₁) (notedBy (model prog w) A env fun e s' => R (.error e) s') s)
    (n : Nat) (h : I n s) : codeN (model prog w) A (.forLoop target it body [] env) R s := by
  refine codeN_loop rfl rfl I (fun n s hI => ?_) n h
  show wpN _ _ ((forTurn target it body [] env).onRaise (fun x => do noteFrame x env; theTreesLotGoes x)) _ _ s
  refine wpN_onRaise (wpN_mono (E := notedBy (model prog w) A env fun e s' => R (.error e) s') ?_ (fun _ _ q => q) fun _ _ hx => wpAny_bind (wpAny_mono hx (fun _ _ e => wpAny_theTreesLotGoes e) fun _ _ e => e))
  simp only [forTurn]
  refine wpN_bindA (wpAny_standAt (wpN_bindA (wpAny_onRaise (wpAny_mono (turn n s hI) (fun r s₁ h₁ => ?_) fun _ _ h' => wpAny_standAt h'))))
  induction r using Option.casesOn with
  | none => exact wpN_pure (.inr ⟨rfl, rfl, codeN_any (codeAny_block (wpAny_execs_nil h₁))⟩)
  | some v =>
    refine wpN_bindA (wpAny_mono h₁ (fun _ s₁' h₁' => ?_) fun _ _ h' => h')
    refine wpN_bindA (wpAny_mono h₁' (fun _ s₂ h₂ => wpN_bind (wpN_mono h₂ (fun f s₃ h₃ => ?_) fun _ _ h' => h')) fun _ _ h' => h')
    cases f with
    | next => exact wpN_pure (.inl ⟨rfl, h₃⟩)
    | cont => exact wpN_pure (.inl ⟨rfl, h₃⟩)
    | brk => exact wpN_pure h₃
    | ret v => exact wpN_pure h₃
theorem codeN_func {body : List Stmt}
    (h : wpN (model prog w) (A.deeper env) (execs body env) (fun f s' => R (.ok (.ret (match f with | .ret v => v | _ => .none))) s')
      (fun e s' => wpAny (model prog w) (A.deeper env) (leaving env e) (fun _ s'' => R (.error e) s'') (fun e' s'' => R (.error e') s'') s') s) :
    codeN (model prog w) A (.func body env) R s := by
  refine codeN_of_tree ?_
  show wpN _ (A.deeper env) (do point; match <- (execs body env).onRaise (leaving env) with | .ret v => ret v | _ => ret .none) _ _ s
  refine wpN_bindA (wpAny_point (wpN_bind (wpN_onRaise (wpN_mono h (fun f s' h' => ?_) fun _ _ h' => h'))))
  cases f <;> exact wpN_pure h'
theorem codeN_call_function {a : Addr} {args : Args} {o : Obj} {fd : FuncData} {body : List Stmt} (hroom : A.depth < recursionLimit)
    (ho : s.heap.get? a = some o) (hd' : o.data = .func fd) (hco : fd.scope.isCoroutine = false) (hgen : fd.scope.isGenerator = false) (hbody : fd.body = .stmts body) (hcd : s.heap.CodeRec fd.code fd.qualname)
    (h : wpAny (model prog w) A.in1 (bindArgs fd args) (fun binds s₁ =>
      wpAny (model prog w) A.in1 (newFunctionEnv fd.scope fd.globals fd.closure binds (fd.qualname ++ ".<locals>.") (some a) fd.code none fd.builtins)
        (fun env s₂ => s₂.heap.NoLimit /\ codeN (model prog w) A (.func body env) R s₂) (fun e s' => R (.error e) s') s₁) (fun e s' => R (.error e) s') s) :
    codeN (model prog w) A (.call (.ref a) args) R s := by
  refine codeN_of_tree ?_
  show wpN _ A.in1 (callAny (.ref a) args) _ _ s
  simp only [callAny]
  refine wpN_bindA (wpAny_load ho ?_)
  obtain ⟨c, oc, vs, tq, hc, hoc, hdc, hq⟩ := hcd
  simp only [hd', callFunction, hco, hgen, hbody, hc]
  rw [hc] at h
  refine wpN_bindA (m := field (.ref c) 1) (wpAny_field hoc hdc hq (wpN_bindA (wpAny_pure ?_)))
  exact wpN_bindA (wpAny_mono h (fun binds s₁ h₁ => wpN_bindA (wpAny_mono h₁ (fun env s₂ h₂ => wpN_bindA (wpAny_enterFrame h₂.1 hroom
    (wpN_pure ⟨rfl, rfl, h₂.2⟩))) fun _ _ h' => h')) fun _ _ h' => h')
end
section
variable {W : Wd} {n : Nat} {A : Around} {X : Addr -> Prop} {s s' : Shared} {E : Value -> Shared -> Prop}
theorem def_inN (ok : W.Ok) {a : Addr} {fd : FuncData} {body : List Stmt} {ps : List Str} (D : DefIn W a fd body) (hs : scopeOK fd.scope ps = true)
    (S : Sit0 W (n + 1) A s) {vals all : List Value} {args : List PV} (hb : BindsTo s fd ⟨vals, []⟩ (ps.zip all)) (r : Reps W s.heap X all args) {R : Result -> Shared -> Prop}
    (h : ∀ env s1, Step W (fun a => s.heap.objs.size <= a) s s1 -> Sit0 W n (A.deeper env) s1 -> AtTop (A.deeper env) env -> Fra W fd.scope (ps.zip args).reverse X env s.heap.objs.size s.heap.objs.size s1.heap ->
      wpN (model W.prog W.w) (A.deeper env) (execs body env) (fun f s' => R (.ok (.ret (match f with | .ret v => v | _ => .none))) s') (fun e s' => wpAny (model W.prog W.w) (A.deeper env) (leaving env e) (fun _ s'' => R (.error e) s'') (fun e' s'' => R (.error e') s'') s') s1) :
    codeN (model W.prog W.w) A (.call (.ref a) ⟨vals, []⟩) R s := by
  obtain ⟨FS, hf, hst⟩ := scopeOK_fn hs
  have XK := ok.inK S.base
  obtain ⟨l, hA, St⟩ := S.fr
  refine codeN_call_function S.room.dep (XK _ _ D.lk) rfl FS.co FS.gen D.body (codeIs_rec XK D.code) (hb _ _ _ _ ?_)
  rw [D.gl, D.cl, D.bi]
  refine enter_fn (X := X) S.base FS.kind (fun x hx => hst _ (List.of_mem_zip hx).1) FS.cd hf D.lam (Binds.zip r) fun env s1 hf hsc t1 F hlt => ⟨ok.lim t1.base, codeN_func ?_⟩
  exact h env s1 t1 ⟨t1.base, S.room.deeper env, ⟨env :: l, by show A.frames.map _ = _; rw [hA]; rfl, fun z hz => by
        rcases List.mem_cons.mp hz with rfl | hz
        · obtain ⟨o, es, ep, a1, a2, a3⟩ := F.obj
          exact ⟨by rw [hsc]; exact FS.kind, _, o, es, ep, hf, S.base.size, a1, a2, a3⟩
        · exact (St.step t1.fr) z hz⟩⟩ ⟨env, l, _, by show A.frames.map _ = _; rw [hA]; rfl, hf, hf⟩ F
end
noncomputable def packsP (Fp : List PV -> Out PV) : List PV -> Option (List UInt8)
  | [] => some []
  | x :: r => match Fp [x] with
    | .ok (.bytes b) => (packsP Fp r).map (b ++ ·)
    | _ => none
theorem packsP_cons {Fp : List PV -> Out PV} {x : PV} {r : List PV} {bs : List UInt8} (h : packsP Fp (x :: r) = some bs) : ∃ b rest, Fp [x] = .ok (.bytes b) /\ packsP Fp r = some rest /\ bs = b ++ rest := by
  unfold packsP at h
  split at h
  · rename_i b hb
    obtain ⟨rest, h1, h2⟩ := Option.map_eq_some_iff.mp h
    exact ⟨b, rest, hb, h1, h2.symm⟩
  · cases h
theorem sc_307' : isStored fd_307.scope "found" = true := by kernel_rfl
theorem sc_307o : isStored fd_307.scope "order" = true := by kernel_rfl
theorem g_307a : fd_307.scope.names.lookup ("bytearray" : Str) = some .globalImplicit := by kernel_rfl
theorem g_307b : fd_307.scope.names.lookup ("bytes" : Str) = some .globalImplicit := by kernel_rfl
theorem g_307p : fd_307.scope.names.lookup ("pack" : Str) = some .globalImplicit := by kernel_rfl
section
variable {w : World} {hB : Heap} {mg mb : Str -> Option Value} {n : Nat} {A : Around} {X : Addr -> Prop} {s s' s0 : Shared} {E : Value -> Shared -> Prop} {σ : Vars} {env : Env} {L : Addr}
theorem ba_nod {b : List UInt8} : NoDatum (baObj b) := ⟨nofun, nofun, fun es n q => absurd (congrArg Obj.cls q) (show Value.type "bytearray" ≠ Value.type "dict" by decide)⟩
theorem ba_cls : Value.type "bytearray" ≠ .none /\ Value.type "bytearray" ≠ .type "frame" /\ Value.type "bytearray" ≠ .type "code" := by decide
theorem pack_turn (ok : (WW w hB mg mb).Ok) {fv : Value} {Fp : List PV -> Out PV} (PK : GlobAt (WW w hB mg mb) "pack" fv) (FP : FnOK (WW w hB mg mb) n fv Fp) {ba : Addr} {acc b : List UInt8} {x : PV} {body : List Stmt} {Q : Flow -> Shared -> Prop}
    (hbody : ∃ p1 p2 p3 p4 p5 p6 p7, body = [.Expr (.Call (.Attribute (.Name "found" p1) "extend" p2) [.Call (.Name "pack" p3) [.Name "order" p4] [] p5] [] p6) p7] /\ (p2.endLine == p6.line) = true)
    (S : Sit (WW w hB mg mb) n A X s) (F : Fra (WW w hB mg mb) fd_307.scope σ X env L L s.heap) (h1 : σ.lookup ("found" : Str) = some (.opq ba)) (h2 : σ.lookup ("order" : Str) = some x)
    (hx : Fp [x] = .ok (.bytes b)) (ha : s.heap.get? ba = some (baObj acc)) (hz : acc.length + b.length <= sizeLine) (hba : hB.objs.size <= ba)
    (h : ∀ s2 h', Step (WW w hB mg mb) NoA s s2 -> h'.get? ba = some (baObj (acc ++ b)) -> Heap.SameBut ba s2.heap h' -> s2.heap.get? ba = some (baObj acc) -> Q .next { s2 with heap := h' }) :
    wpN (model (WW w hB mg mb).prog w) A (execs body env) Q E s := by
  obtain ⟨p1, p2, p3, p4, p5, p6, p7, rfl, hl⟩ := hbody
  refine wpN_execs_cons (wpN_Expr_any (methN (by rfl) hl (by rfl) (show 1 < 30 by decide) (var_stmt F h1 (by decide) fun u ru => ?_)) ?_ (by rfl))
  · obtain rfl := ru.isOpq
    refine gm_extend ha (callWithN (P := fun _ => True) (by rfl) keeper_builtin ?_)
    refine wpAny_items_cons (wpAny_Call_ofName (wpAny_Name (loadName_glob ok S.base F.envOK g_307p PK ?_) (by decide))) (by rfl)
    refine callWith_fn (P := (WW w hB mg mb).K.In) (by rfl) (keeper_of FP.kp) (wpAny_items_cons (var_stmt F h2 (by decide) fun v rv => wpAny_items_nil ⟨ok.inK S.base, ?_⟩) (by rfl))
    refine wpAny_mono (FP.run A X s [v] [x] S (.cons rv .nil) (by rw [hx]; exact nofun)) (fun r s2 q => ?_) fun e s2 q => ?_
    · obtain ⟨p, hp, rr, t⟩ := q
      rw [hx] at hp; cases hp
      obtain ⟨t0, rfl⟩ := rr.isBytes
      refine wpAny_items_nil ⟨trivial, ?_⟩
      have ha2 : s2.heap.get? ba = some (baObj acc) := t.keeps.get ha id ba_cls.1 ba_cls.2.1
      refine ba_extend ha2 hz fun h' e1 e2 => ?_
      exact wpN_any (wpAny_execs_nil (h s2 h' t e1 e2 ha2))
    · obtain ⟨pa, hp, _⟩ := q
      rw [hx] at hp; cases hp
  · unfold interactive
    rw [F.scope, F.kind]; rfl
theorem packall_body (ok : (WW w hB mg mb).Ok) (BA : GlobAt (WW w hB mg mb) "bytearray" (.type "bytearray")) (BY : GlobAt (WW w hB mg mb) "bytes" (.type "bytes")) {fv : Value} {Fp : List PV -> Out PV} (PK : GlobAt (WW w hB mg mb) "pack" fv) (FP : FnOK (WW w hB mg mb) n fv Fp)
    {xs : List PV} {bs : List UInt8} {Q : Flow -> Shared -> Prop} (hp : packsP Fp xs = some bs) (hz : bs.length <= 100000) {X' : Addr -> Prop} (hX1 : ∀ a, X a -> X' a) (hX2 : ∀ a, L <= a -> X' a)
    (S : Sit (WW w hB mg mb) n A X s) (F : Fra (WW w hB mg mb) fd_307.scope [("orders", .list xs)] X' env L L s.heap) (hlo : hB.objs.size <= L)
    (fin : ∀ t s', Step (WW w hB mg mb) (fun a => L <= a) s s' -> Q (.ret (.bytes bs.toArray t)) s') :
    wpN (model (WW w hB mg mb).prog w) A (execs (fBody d_pack_all.1) env) Q E s := by
  have hLs : L < s.heap.objs.size := by obtain ⟨o, es, ep, e, _⟩ := F.obj; exact Heap.lt_size e
  have hzz : bs.length <= sizeLine := by rw [sizeLine_eq]; omega
  delta d_pack_all fBody
  dsimp only
  refine wpN_execs_cons (wpN_Assign_Name (wpN_Call_ofName (wpAny_Name (loadName_glob ok S.base F.envOK g_307a BA ?_) (by decide))) (by rfl))
  refine callWithN (P := fun _ => True) (by rfl) keeper_type (wpAny_items_nil ⟨trivial, ?_⟩)
  refine ba_make fun h1 e1 k1 z1 => ?_
  obtain ⟨ba, hba⟩ : ∃ ba, ba = s.heap.objs.size := ⟨_, rfl⟩
  rw [<- hba] at e1 z1 ⊢
  have t1 : Step (WW w hB mg mb) NoA s { s with heap := h1 } := Step.of_all (tk := s.toks) S.base k1 (by omega)
  have F1 := F.no t1
  refine F1.store (s := { s with heap := h1 }) t1.base hlo sc_307' (.opq ba) fun s2 t2 F2 => ?_
  have flat : ∀ x, fd_307.scope.names.lookup x ≠ some .cell := fun x => (flat_no (show flatSc fd_307.scope = true by kernel_rfl) x).1
  have yf : ∀ a, YF fd_307.scope env L a -> a = L := fun a q => q.elim id fun ⟨x, q, _⟩ => absurd q (flat x)
  have hbL : L < ba := hba ▸ hLs
  have e2 : s2.heap.get? ba = some (baObj []) := t2.t.keeps.get e1 (fun q => Nat.ne_of_gt hbL (yf _ q)) ba_cls.1 ba_cls.2.1
  have T2 : Step (WW w hB mg mb) (fun a => L <= a) s s2 := t1.no.trans (t2.t.mono fun a _ q => Nat.le_of_eq (yf a q).symm)
  refine wpN_execs_cons (wpN_For (var_stmt F2 (by rfl) (by decide) fun u ru => ?_) (fun x => rfl))
  obtain ⟨ax, o, vs, k, rfl, ea, ca, da, xa, za, ra⟩ := ru.isList
  refine wpAny_pyIter_list ⟨_, ea, ca, _, da⟩ ?_
  obtain ⟨I, hI⟩ : ∃ I, I = s2.heap.objs.size := ⟨_, rfl⟩
  have t3 : Step (WW w hB mg mb) NoA s2 { s2 with heap := s2.heap.push { cls := .type "list_iterator", data := .fields #[.ref ax, .int 0 0] } } := Step.push t2.t.base
  have hbs : ba < s2.heap.objs.size := Heap.lt_size e2
  have hLI : L <= I := hI ▸ Nat.le_trans (Nat.le_of_lt hbL) (Nat.le_of_lt hbs)
  have hIL : I ≠ L := Nat.ne_of_gt (hI ▸ Nat.lt_trans hbL hbs)
  have hBI : hB.objs.size <= I := Nat.le_trans hlo hLI
  have hne : ax ≠ I := Nat.ne_of_lt (hI ▸ Heap.lt_size ea)
  have src : Src (WW w hB mg mb) A I xs X' _ := Src.list S.hand hne hBI (hX2 I hLI)
  refine for_loopN (fun k s' => ∃ i σi acc, k = xs.length + 1 - i /\ i <= xs.length /\ Fra (WW w hB mg mb) fd_307.scope σi X' env L L s'.heap /\ σi.lookup ("found" : Str) = some (.opq ba) /\ Step (WW w hB mg mb) (fun a => L <= a) s s' /\
    (s'.heap.IsListIter I ax i /\ Rep (WW w hB mg mb) s'.heap X' (.ref ax) (.list xs)) /\ s'.heap.get? ba = some (baObj acc) /\ ∃ rest, packsP Fp (xs.drop i) = some rest /\ acc ++ rest = bs) ?_ (xs.length + 1)
    ⟨0, _, [], rfl, Nat.zero_le _, F2.no t3, by rfl, T2.trans t3.no, ⟨by rw [hI]; exact ⟨_, Heap.get?_push_size _ rfl, rfl, rfl⟩, ru.step t3⟩, t3.keeps.get e2 id ba_cls.1 ba_cls.2.1, bs, hp, rfl⟩
  rintro k s4 ⟨i, σi, acc, rfl, hi, F4, hf, T4, st4, e4, rest, hr, hacc⟩
  rw [<- hI]
  have hIba : ba ≠ I := Nat.ne_of_lt (hI ▸ hbs)
  rcases Nat.lt_or_ge i xs.length with hlt | hge
  · have hpx : xs[i]? = some xs[i] := by simp [hlt]
    have hdrop : xs.drop i = xs[i] :: xs.drop (i + 1) := List.drop_eq_getElem_cons hlt
    generalize xs[i] = x at hpx hdrop
    rw [hdrop] at hr
    obtain ⟨b, rest', hb, hr', rfl⟩ := packsP_cons hr
    refine src.item st4 T4.base hpx fun v s5 st5 t5 rv => ?_
    refine wpAny_of_eq (a := ()) rfl ?_
    have cellI : ∀ (u : Option Value), ¬ s4.heap.IsCell I u := fun u ⟨o, e, d⟩ => by
      obtain ⟨⟨o', e', _, d'⟩, _⟩ := st4
      rw [e] at e'; cases e'; rw [d] at d'; cases d'
    have F5 := F4.step t5 (fun a q => by subst q; exact ⟨hIL, cellI⟩) fun v p r => r.keeps t5.keeps fun a q => q ▸ hX2 I hLI
    refine PySem.wpAny_assign_Name (F5.store t5.base hlo sc_307o rv fun s6 t6 F6 => ?_)
    have e6 : s6.heap.get? ba = some (baObj acc) := t6.t.keeps.get (t5.keeps.get e4 hIba ba_cls.1 ba_cls.2.1) (fun q => Nat.ne_of_gt hbL (yf _ q)) ba_cls.1 ba_cls.2.1
    have T6 : Step (WW w hB mg mb) (fun a => L <= a) s s6 := T4.trans ((t5.mono fun a _ q => q ▸ hLI).trans (t6.t.mono fun a _ q => Nat.le_of_eq (yf a q).symm))
    have S6 : Sit (WW w hB mg mb) n A X s6 := ⟨T6.base, S.room, S.hand, let ⟨l, a, b⟩ := S.fr; ⟨l, a, b.step T6.fr⟩, fun a q => Nat.lt_of_lt_of_le (S.priv a q) T6.size⟩
    refine pack_turn ok PK FP ⟨_, _, _, _, _, _, _, rfl, by rfl⟩ S6 (F6.wid (X' := X) fun v p r => r.widen fun a _ q => hX1 a q) (by rw [List.lookup_cons]; exact hf) (by rw [List.lookup_cons, beq_self_eq_true]) hb e6 (by rw [<- hacc, List.length_append, List.length_append] at hzz; omega) (Nat.le_trans hlo (Nat.le_of_lt hbL)) fun s7 h8 t7 e8 sb8 e7 => ?_
    have t8 : Step (WW w hB mg mb) (fun a => a = ba) s7 { s7 with heap := h8 } := Step.one (tk := s7.toks) t7.base e7 (Nat.le_trans hlo (Nat.le_of_lt hbL)) ba_cls.1 ba_cls.2.2 ba_cls.2.1 sb8
    have rk : ∀ v p, Rep (WW w hB mg mb) s7.heap X' v p -> Rep (WW w hB mg mb) h8 X' v p := fun v p r => r.turn e7 ba_nod t8.keeps
    have st6 : s6.heap.IsListIter I ax (i + 1) /\ Rep (WW w hB mg mb) s6.heap X' (.ref ax) (.list xs) := src.keep st5 t6.t.keeps fun a q => by
      have := yf a q
      subst this
      exact ⟨hX2 _ (Nat.le_refl _), Ne.symm hIL⟩
    have st7 := src.keep st6 t7.keeps fun a f => f.elim
    have st8 : h8.IsListIter I ax (i + 1) /\ Rep (WW w hB mg mb) h8 X' (.ref ax) (.list xs) := src.keepR st7 rk fun o e h1 h2 => sb8.extBut I o (Ne.symm hIba) e
    refine ⟨xs.length + 1 - (i + 1), by omega, i + 1, ("order", x) :: σi, acc ++ b, rfl, hlt, ?_, ?_, T6.trans (t7.no.trans (t8.mono fun a _ q => q ▸ Nat.le_of_lt hbL)), st8, e8, rest', hr', by rw [List.append_assoc]; exact hacc⟩
    · exact (F6.no t7).step t8 (fun a q => by
        subst q
        refine ⟨Nat.ne_of_gt hbL, fun v ⟨o, e, d⟩ => ?_⟩
        rw [e7] at e; cases e; cases d) rk
    · rw [List.lookup_cons]; exact hf
  · obtain rfl : i = xs.length := by omega
    rw [List.drop_length] at hr
    obtain rfl : rest = [] := (Option.some.inj hr).symm
    rw [List.append_nil] at hacc
    subst hacc
    refine src.done st4 T4.base fun s5 t5 => ?_
    have cellI : ∀ (u : Option Value), ¬ s4.heap.IsCell I u := fun u ⟨o, e, d⟩ => by
      obtain ⟨⟨o', e', _, d'⟩, _⟩ := st4
      rw [e] at e'; cases e'; rw [d] at d'; cases d'
    have F5 := F4.step t5 (fun a q => by subst q; exact ⟨hIL, cellI⟩) fun v p r => r.keeps t5.keeps fun a q => q ▸ hX2 I hLI
    have e5 : s5.heap.get? ba = some (baObj acc) := t5.keeps.get e4 hIba ba_cls.1 ba_cls.2.1
    refine wpN_any (wpAny_execs_cons (wpAny_Return_some (wpAny_Call_ofName (wpAny_Name (loadName_glob ok t5.base F5.envOK g_307b BY ?_) (by decide)))))
    refine callWith_fn (P := fun _ => True) (by rfl) keeper_type (wpAny_items_cons (var_stmt F5 hf (by decide) fun u ru => wpAny_items_nil ⟨trivial, ?_⟩) (by rfl))
    obtain rfl := ru.isOpq
    refine ba_tobytes e5 hzz fun t k => ?_
    exact fin t _ (T4.trans ((t5.mono fun a _ q => q ▸ hLI).trans (Step.toks t5.base)))
theorem packall_N (ok : (WW w hB mg mb).Ok) (BA : GlobAt (WW w hB mg mb) "bytearray" (.type "bytearray")) (BY : GlobAt (WW w hB mg mb) "bytes" (.type "bytes")) {fv : Value} {Fp : List PV -> Out PV} (PK : GlobAt (WW w hB mg mb) "pack" fv) (FP : FnOK (WW w hB mg mb) n fv Fp)
    {xs : List PV} {bs : List UInt8} {v : Value} (hp : packsP Fp xs = some bs) (hz : bs.length <= 100000) (S : Sit (WW w hB mg mb) (n + 1) A X s) (r : Rep (WW w hB mg mb) s.heap X v (.list xs)) :
    wpN (model (WW w hB mg mb).prog w) A (call (.ref 307) [v]) (Post (WW w hB mg mb) s (RV (WW w hB mg mb) X) (.ok (.bytes bs))) E s := by
  obtain ⟨X', hX'⟩ : ∃ X' : Addr -> Prop, X' = fun a => X a \/ s.heap.objs.size <= a := ⟨_, rfl⟩
  have r' : Rep (WW w hB mg mb) s.heap X' v (.list xs) := r.widen fun a ha q => by rw [hX'] at q; exact q.elim id fun z => absurd ha (Nat.not_lt.mpr z)
  refine wpN_call (def_inN (X := X') ok D_307 sc_307 S.to0 (BindsTo.of_eq (bi_307 [v] rfl)) (.cons r' .nil) fun env s1 t1 S1 T1 F1 => ?_)
  have S2 : Sit (WW w hB mg mb) n (A.deeper env) X s1 := ⟨S1.base, S1.room, S.hand, S1.fr, fun a z => Nat.lt_of_lt_of_le (S.priv a z) t1.size⟩
  refine packall_body ok BA BY PK FP hp hz (fun a q => by rw [hX']; exact .inl q) (fun a q => by rw [hX']; exact .inr q) S2 F1 S.base.size fun t s' T => ?_
  exact ⟨_, rfl, .bytes bs t, (t1.trans T).mono fun a ha z => absurd ha (Nat.not_lt.mpr z)⟩
end
theorem entry_unchain : entryFor table "proto.unchain" = some Builtin.«proto.unchain» := by first | exact entryFor_of_fast (by kernel_rfl) | exact entryFor_of_tree (by kernel_rfl)
section
variable {M : Model} {A : Around} {E : Value -> Shared -> Prop} {s : Shared} {env : Env}
theorem nsDel_any {a : Addr} {m : Str -> Option Value} {name : Str} {o : Obj} {es : Array DictEntry} {ep : Nat} {Q : Bool -> Shared -> Prop} (hn : s.heap.Ns a m) (ho : s.heap.get? a = some o) (hd : o.data = .dict es ep)
    (hQ : ∀ h' es' ep', h'.get? a = some { o with data := .dict es' ep' } -> Heap.SameBut a s.heap h' -> Q (m name).isSome { s with heap := h' }) : wpAny M A (nsDel a name) Q E s := by
  obtain ⟨o', es0, ep0, ho', hd', hk, hm⟩ := id hn
  cases ho.symm.trans ho'
  rw [hd] at hd'; cases hd'
  have hany : es.any (·.refKey) = false := by
    rw [Array.any_eq_false']; intro e he; obtain ⟨n, t, h⟩ := hk e he; simp [DictEntry.refKey, h]
  have hsome : (m name).isSome = es.any (·.key.isStr name) := by
    rw [<- hm name]; simp only [nsFind, findBy, Option.isSome_map]
    rw [Bool.eq_iff_iff]; simp only [Array.find?_isSome, Array.any_eq_true]
    constructor
    · rintro ⟨x, hx, hp⟩; obtain ⟨i, hi, rfl⟩ := Array.mem_iff_getElem.mp hx; exact ⟨i, hi, hp⟩
    · rintro ⟨i, hi, hp⟩; exact ⟨_, Array.getElem_mem hi, hp⟩
  have hhas : nsHas name o = pure (es.any (·.key.isStr name)) := by
    rw [nsHas_eq]; unfold nsHasByArray; rw [hd]
    show (if (es.any fun x => x.key.isStr name) = true then _ else _) = _
    generalize (es.any fun x => x.key.isStr name) = b
    cases b <;> simp [hany]
  unfold nsDel
  refine wpAny_bind (wpAny_loadPart ho ?_)
  rw [hhas]
  refine wpAny_bind (wpAny_pure ?_)
  rw [<- hsome]
  cases hmn : (m name).isSome
  · have := hQ s.heap es ep (by rw [ho]; obtain ⟨c, d, dt, sl⟩ := o; subst hd; rfl) (.refl ..)
    rw [hmn] at this
    exact wpAny_pure this
  · refine wpAny_bind (wpAny_updatePart ho (wpAny_pure ?_))
    have key : ∃ es' ep', (s.heap.update a (Obj.dropName name)).get? a = some { o with data := .dict es' ep' } := by
      obtain ⟨cl, d, dt, sl⟩ := o
      subst hd
      cases hi : es.findIdx? (·.key.isStr name) with
      | some i => exact ⟨_, _, (Heap.get?_update_self _ ho (by simp only [Obj.dropName_eq, Obj.dropNameByArray, hi] <;> rfl)).trans (by simp only [Obj.dropName_eq, Obj.dropNameByArray, hi] <;> rfl)⟩
      | none => exact ⟨_, _, (Heap.get?_update_self _ ho (by simp only [Obj.dropName_eq, Obj.dropNameByArray, hi] <;> rfl)).trans (by simp only [Obj.dropName_eq, Obj.dropNameByArray, hi] <;> rfl)⟩
    obtain ⟨es', ep', hm'⟩ := key
    have := hQ _ es' ep' hm' (Heap.SameBut.update ..)
    rw [hmn] at this
    exact this
theorem name_goes {n : Str} {pos : Pos} {m : Str -> Option Value} {o : Obj} {es : Array DictEntry} {ep : Nat} {Q : Unit -> Shared -> Prop} (hl : env.kindOf n = some .local) (hn : s.heap.Ns env.locals m) (ho : s.heap.get? env.locals = some o) (hd : o.data = .dict es ep)
    (hp : (env.scope.kind == .class || (env.scope.kind == .module && env.locals != env.globals)) = false)
    (h : ∀ h' es' ep', h'.get? env.locals = some { o with data := .dict es' ep' } -> Heap.SameBut env.locals s.heap h' -> Q () { s with heap := h', toks := s.toks + 1 }) :
    wpAny M A (do bindName env n .none; unbindBehindTheSuite env n pos) Q E s := by
  refine wpAny_bind (wpAny_bindName (storeLocal_any hl hn ho hd (fun h₁ es1 ep1 hn₁ hs₁ ho₁ => ?_) hp))
  unfold unbindBehindTheSuite
  refine wpAny_onRaise ?_
  unfold unbindName
  refine wpAny_bind (wpAny_point (wpAny_bind ?_))
  unfold deleteName
  simp only [hl, hp]
  rw [if_neg (by decide)]
  refine wpAny_bind (nsDel_any (s := { s with heap := h₁, toks := s.toks + 1 }) hn₁ ho₁ rfl fun h₂ es2 ep2 ho₂ hs₂ => ?_)
  simp only [if_true, Option.isSome_some, Bool.not_true, Bool.false_eq_true, if_false]
  exact wpAny_pure (wpAny_point (h h₂ _ _ ho₂ (hs₁.trans hs₂)))
end
section
variable {W : Wd} {n : Nat} {A : Around} {X X' : Addr -> Prop} {s s' s0 : Shared} {E : Value -> Shared -> Prop} {env : Env} {L : Addr} {old : Nat}
theorem raise_exc2 (ok : W.Ok) (sub : mroIn W.K W.ec (.type "BaseException") = some true) (typ : typeIn W.K (.ref W.ec) = some (.type "type")) {x : Sem Value} {Q : Flow -> Shared -> Prop} {h0 : Addr} (hh : A.handled = some (.ref h0)) (hB : W.hB.objs.size <= old)
    (h : wpAny (model W.prog W.w) A x (fun v s1 => ∃ pa old0 fl, pa ≠ .none /\ Base W s1.heap /\ Exc W s1.heap X old (fun o => o = none) v pa /\ Exc W s1.heap X' old0 fl (.ref h0) .none /\ v ≠ .ref h0 /\
      ∀ s2, Step W (fun a => old <= a) s1 s2 -> Exc W s2.heap X old (fun o => o = none) v pa -> E v s2) E s) : wpAny (model W.prog W.w) A (raiseStmt env (some x) none) Q E s := by
  unfold raiseStmt
  refine wpAny_bind (wpAny_mono h (fun v s1 h1 => ?_) fun _ _ x => x)
  obtain ⟨pa, old0, fl, hpa, B, ⟨ea, dx, vs, what, t1, t2, tw, hs1, hs2, n, va, sl, sld, rfl, q2, q3, q4, q5, q6, q7, q8⟩, hx0, hne, hE⟩ := h1
  have hv1 : vs[1]? = some .none := by
    rcases q8 with ⟨a, _⟩ | ⟨T, oT, ts, f, r1, r2, r3, r4, r5, r6, r7, r8⟩
    · exact a
    · cases r8
  have XK := ok.inK B
  have L0 : Looks (model W.prog W.w) s1.heap (typeOf (.ref ea)) (.ref W.ec) := (Looks.ld q4).andThen .now
  have L1 : Looks (model W.prog W.w) s1.heap (isSubtype (.ref W.ec) (.type "BaseException")) true := looks_mroIn XK sub
  have L2 : Looks (model W.prog W.w) s1.heap (typeOf (.ref W.ec)) (.type "type") := looks_typeIn XK typ
  have L3 : Looks (model W.prog W.w) s1.heap (isType (.ref ea)) false := (Looks.ld q4).andThen .now
  have L4 : Looks (model W.prog W.w) s1.heap (isInstance (.ref ea) (.type "BaseException")) true := L0.andThen L1
  have L5 : Looks (model W.prog W.w) s1.heap (excFromValue (.ref ea) "exceptions must derive from BaseException") (.ref ea) := by
    unfold excFromValue isExcClass
    refine Looks.andThen (L3.andThen .now) ?_
    simp only [Bool.false_eq_true, if_false]
    refine L4.andThen ?_
    simp only [if_true]
    exact .now
  have L6 : Looks (model W.prog W.w) s1.heap (raisedInstance (.ref ea)) (.ref ea) := by
    unfold raisedInstance
    exact L0.andThen (L2.andThen .now)
  refine wpAny_bind (wpAny_pure (wpAny_bind (wpAny_holding (L5.here (wpAny_bind (L3.here ?_))))))
  simp only [Bool.false_eq_true, if_false]
  refine wpAny_bind (L6.here ?_)
  unfold setFlight
  refine wpAny_bind (wpAny_bind (wpAny_field q4 rfl hv1 ?_))
  rw [if_neg (by decide)]
  refine wpAny_pure ?_
  unfold raiseNew
  refine wpAny_bind (wpAny_handled ?_)
  rw [hh]
  dsimp only
  have hne' : (Value.ref h0 != Value.ref ea) = true := by simpa using fun q => hne (by rw [q])
  rw [hne']
  simp only [if_true]
  obtain ⟨ea0, dx0, vs0, what0, t10, t20, tw0, hs10, hs20, n0, va0, sl0, sld0, e0, p2, p3, p4, p5, _⟩ := hx0
  cases e0
  refine wpAny_bind (wpAny_holding (wpAny_runValue (codeAny_builtin entry_unchain ?_)))
  unfold Builtin.«proto.unchain»
  refine wpAny_bind (wpAny_field p4 rfl (p5.2 rfl) ?_)
  refine wpAny_pure ?_
  show wpAny _ _ (updateField ea 2 (.ref h0) >>= fun _ => throw (Value.ref ea)) _ _ _
  have hsz2 : 2 < vs.size := by rw [q5.1]; decide
  refine wpAny_bind (wpAny_setField (a := ea) (i := 2) (x := .ref h0) q4 rfl hsz2 ?_)
  refine wpAny_throw ?_
  have dne : dx ≠ ea := fun q => by rw [q, q4] at q6; cases q6
  have g4 := Heap.get?_update_self (Obj.mapFields (·.setIfInBounds 2 (.ref h0))) q4 rfl
  have st : Step W (fun b => b = ea) s1 { s1 with heap := s1.heap.update ea (Obj.mapFields (·.setIfInBounds 2 (.ref h0))) } :=
    Step.one B q4 (Nat.le_trans hB q2) nofun nofun nofun (Heap.SameBut.update ..)
  have oth : ∀ b, b ≠ ea -> (s1.heap.update ea (Obj.mapFields (·.setIfInBounds 2 (.ref h0)))).get? b = s1.heap.get? b := fun b hb => Heap.get?_update_other _ _ (Ne.symm hb)
  refine hE _ (st.mono fun a _ q => q ▸ q2) ⟨ea, dx, vs.setIfInBounds 2 (.ref h0), what, t1, t2, tw, hs1, hs2, n, va, sl, sld, rfl, q2, q3, g4, ⟨by simp [q5.1], fun q => absurd q hpa⟩, (oth _ dne).trans q6, q7.turn q4 (NoDatum.fields rfl) st.keeps, .inl ⟨by simp [hv1], rfl⟩⟩
end
section
variable {W : Wd} {X X' Y : Addr -> Prop} {s s' s0 : Shared} {L : Addr} {old : Nat} {fl : Option Value -> Prop} {e : Value} {pa : PV}
theorem Exc.stepI (x : Exc W s.heap X old fl e pa) (hp : immP pa = true) (t : Step W Y s s') (hy : ∀ a, Y a -> a < old) : Exc W s'.heap X' old fl e pa := by
  obtain ⟨ea, dx, vs, what, t1, t2, tw, hs1, hs2, n, va, sl, sld, rfl, q2, q3, q4, q5, q6, q7, q8⟩ := x
  refine ⟨ea, dx, vs, what, t1, t2, tw, hs1, hs2, n, va, sl, sld, rfl, q2, q3, t.keeps.get q4 (fun q => Nat.not_lt.mpr q2 (hy _ q)) nofun nofun, q5, t.keeps.get q6 (fun q => Nat.not_lt.mpr q3 (hy _ q)) nofun dict_ne_frame, q7.imm hp, ?_⟩
  rcases q8 with q8 | ⟨T, oT, ts, f, r1, r2, r3, r4, r5, r6, r7, r8⟩
  · exact .inl q8
  · exact .inr ⟨T, oT, ts, f, r1, r2, r3, t.keeps.get r4 (fun q => Nat.not_lt.mpr r3 (hy _ q)) (by rw [r5]; exact nofun) (by rw [r5]; decide), r5, r6, r7, r8⟩
theorem Exc.lowI (x : Exc W s.heap X old fl e pa) (hp : immP pa = true) {old' : Nat} (ho : old' <= old) : Exc W s.heap X' old' fl e pa := by
  obtain ⟨ea, dx, vs, what, t1, t2, tw, hs1, hs2, n, va, sl, sld, rfl, q2, q3, q4, q5, q6, q7, q8⟩ := x
  refine ⟨ea, dx, vs, what, t1, t2, tw, hs1, hs2, n, va, sl, sld, rfl, Nat.le_trans ho q2, Nat.le_trans ho q3, q4, q5, q6, q7.imm hp, ?_⟩
  rcases q8 with q8 | ⟨T, oT, ts, f, r1, r2, r3, r4, r5, r6, r7, r8⟩
  · exact .inl q8
  · exact .inr ⟨T, oT, ts, f, r1, r2, Nat.le_trans ho r3, r4, r5, r6, r7, r8⟩
theorem Step.frame {h' : Heap} {tk : Nat} {o : Obj} {es es' : Array DictEntry} {ep ep' : Nat} (B : Base W s.heap) (ho : s.heap.get? L = some o) (hc : o.cls = .type "frame") (hd : o.data = .dict es ep) (hB : W.hB.objs.size <= L)
    (ho' : h'.get? L = some { o with data := .dict es' ep' }) (k : Heap.SameBut L s.heap h') : Step W (fun a => a = L) s { s with heap := h', toks := tk } :=
  ⟨KeepsBut.of_extBut k.extBut rfl, B.turn ho hB (by rw [hc]; exact nofun) (by rw [hc]; decide) k.extBut (Nat.le_of_eq k.1.symm), Nat.le_of_eq k.1.symm, rfl, rfl, fun b ob es2 n2 e c d => by
    by_cases hb : b = L
    · subst hb
      cases e.symm.trans ho
      exact ⟨_, es', ep', ho', hc, rfl⟩
    · exact ⟨ob, es2, n2, k.extBut b ob hb e, c, d⟩⟩
end
theorem fl_314 : flatSc fd_314.scope = true := by kernel_rfl
theorem st_314e : isStored fd_314.scope "error" = true := by kernel_rfl
theorem l_314e : fd_314.scope.names.lookup ("error" : Str) = some .local := by kernel_rfl
theorem g_314c : fd_314.scope.names.lookup ("CodeError" : Str) = some .globalImplicit := by kernel_rfl
theorem g_314l : fd_314.scope.names.lookup ("len" : Str) = some .globalImplicit := by kernel_rfl
theorem kp_52 (P : Params) : keepIn (K P) (.ref 52) = true := by kernel_rfl
section
variable {w : World} {hB : Heap} {mg mb : Str -> Option Value} {n : Nat} {A : Around} {X X' : Addr -> Prop} {s s' s0 s2 : Shared} {E : Value -> Shared -> Prop} {σ : Vars} {env : Env} {L old a : Addr}
theorem ua_suite (ok : (WW w hB mg mb).Ok) (CE : GlobAt (WW w hB mg mb) "CodeError" (.ref 52)) (GE : GlobAt (WW w hB mg mb) "Exception" (.type "Exception")) (LN : GlobAt (WW w hB mg mb) "len" (.builtin "len"))
    {ea : Addr} {vs : List Value} {p2 p3 p4 p5 p6 p7 p8 p9 : Pos} {Q : Flow -> Shared -> Prop} (hh : A.handled = some (.ref ea)) (S0 : Sit0 (WW w hB mg mb) (n + 2) A s) (priv : ∀ a, X a -> a < s.heap.objs.size)
    (F : Fra (WW w hB mg mb) fd_314.scope (("error", .opq ea) :: σ) X env L L s.heap) (hf : σ.lookup ("found" : Str) = some (.opq a)) (hl : s.heap.IsList a vs.toArray) (hz : vs.length <= 200000)
    (x : Exc (WW w hB mg mb) s.heap X old fl (.ref ea) .none)
    (fin : ∀ v s', Exc (WW w hB mg mb) s'.heap X s.heap.objs.size (fun o => o = none) v (.int vs.length) -> Step (WW w hB mg mb) (fun a => s.heap.objs.size <= a) s s' -> E v s') :
    wpAny (model (WW w hB mg mb).prog w) A (execs [.Raise (some (.Call (.Name "CodeError" p2) [.Attribute (.Name "error" p3) "what" p4, .Call (.Name "len" p5) [.Name "found" p6] [] p7] [] p8)) none p9] env) Q E s := by
  refine wpAny_execs_cons ?_
  rw [arm_exec_Raise]
  have XK := ok.inK S0.base
  obtain ⟨ol, hol, hcl, nl, hdl⟩ := id hl
  refine wpAny_bind (wpAny_standAt (raise_exc2 (X := X) (X' := X) ok (k_x_base _) (k_x_typ _) hh S0.base.size (wpAny_bind (wpAny_mono (Q := fun v s1 => Exc (WW w hB mg mb) s1.heap X s.heap.objs.size (fun o => o = none) v (.int vs.length) /\ Step (WW w hB mg mb) NoA s s1) ?_ (fun v s1 q => wpAny_bind (wpAny_standAt (wpAny_pure ?_))) fun _ _ q => q))))
  · refine wpAny_Call_ofName (wpAny_Name (loadName_glob ok S0.base F.envOK g_314c CE ?_) (by decide))
    refine callWith_fn (P := (WW w hB mg mb).K.In) (by rfl) (keeper_of (.inr (kp_52 _))) ?_
    refine wpAny_items_cons (attr_any (by rfl) (var_stmt F (by rfl) (by decide) fun u ru => ?_)) (by rfl)
    obtain rfl := ru.isOpq
    refine exc_what ok S0.base x fun wt tw => ?_
    refine wpAny_items_cons (wpAny_Call_ofName (wpAny_Name (loadName_glob (s := { s with toks := s.toks + 1 }) ok S0.base F.envOK g_314l LN ?_) (by decide))) (by rfl)
    refine callWith_fn (P := fun _ => True) (by rfl) keeper_builtin (wpAny_items_cons (var_stmt (s := { s with toks := s.toks + 1 }) F (by rw [List.lookup_cons]; exact hf) (by decide) fun u ru => wpAny_items_nil ⟨trivial, ?_⟩) (by rfl))
    obtain rfl := ru.isOpq
    refine call_len_list (s := { s with toks := s.toks + 1 }) (items := vs.toArray) hl (by simp only [List.size_toArray, sizeLine_eq]; omega) ?_
    refine wpAny_items_nil ⟨ok.inK S0.base, ?_⟩
    have t1 : ∀ k, Step (WW w hB mg mb) NoA s { s with toks := k } := fun k => Step.toks S0.base
    have hsz : vs.toArray.size = vs.length := by simp
    rw [hsz]
    refine wpAny_mono (exc_ok (X := X) (ps := [.str wt, .int vs.length]) ok GE (S0.step (t1 _)) priv (.cons (.str _ _) (.cons (.int _ _) .nil)) rfl) (fun v s1 q => ?_) fun _ _ q => q
    exact ⟨q.1, (t1 _).trans q.2⟩
  · obtain ⟨q1, q2⟩ := q
    refine ⟨.int vs.length, old, fl, nofun, q2.base, q1, x.stepI rfl q2 fun _ f => f.elim, fun q => ?_, fun s3 t3 x3 => fin v s3 x3 (q2.no.trans t3)⟩
    obtain ⟨ea1, _, _, _, _, _, _, _, _, _, _, _, _, e1, le1, _⟩ := q1
    obtain ⟨ea2, _, _, _, _, _, _, _, _, _, _, _, _, e2, _, _, g2, _⟩ := x
    cases e2
    rw [e1] at q; cases q
    exact Nat.lt_irrefl _ (Nat.lt_of_lt_of_le (Heap.lt_size g2) le1)
end
section
variable {w : World} {hB : Heap} {mg mb : Str -> Option Value} {n : Nat} {A : Around} {X X' : Addr -> Prop} {s s' s0 s2 : Shared} {E : Value -> Shared -> Prop} {σ : Vars} {env : Env} {L old a : Addr}
theorem ua_handler (ok : (WW w hB mg mb).Ok) (CE : GlobAt (WW w hB mg mb) "CodeError" (.ref 52)) (GE : GlobAt (WW w hB mg mb) "Exception" (.type "Exception")) (LN : GlobAt (WW w hB mg mb) "len" (.builtin "len"))
    {e : Value} {vs : List Value} {p1 p2 p3 p4 p5 p6 p7 p8 p9 p10 : Pos} {Q : Flow -> Shared -> Prop} (S0 : Sit0 (WW w hB mg mb) (n + 2) A s) (priv : ∀ a, X a -> a < s.heap.objs.size) (T : AtTop A env)
    (F : Fra (WW w hB mg mb) fd_314.scope σ X env L L s.heap) (hσ : σ.all (fun p => immP p.2) = true) (hlo : hB.objs.size <= L) (hf : σ.lookup ("found" : Str) = some (.opq a)) (hl : s.heap.IsList a vs.toArray) (haL : a ≠ L) (hz : vs.length <= 200000)
    (t : Step (WW w hB mg mb) NoA s s2) (x : Exc (WW w hB mg mb) s2.heap X s.heap.objs.size Fl0 e .none)
    (fin : ∀ v s', Exc (WW w hB mg mb) s'.heap X L (FlAt L) v (.int vs.length) -> Step (WW w hB mg mb) (fun a => L <= a) s s' -> E v s') :
    wpAny (model (WW w hB mg mb).prog w) A (noteFrame e env) (fun _ s₂ => wpAny (model (WW w hB mg mb).prog w) A (setFlight e none) (fun _ s₃ => wpAny (model (WW w hB mg mb).prog w) A (handleBy e env [.ExceptHandler (some (.Name "CodeError" p1)) (some "error")
      [.Raise (some (.Call (.Name "CodeError" p2) [.Attribute (.Name "error" p3) "what" p4, .Call (.Name "len" p5) [.Name "found" p6] [] p7] [] p8)) none p9] p10]) Q E s₃) E s₂) E s2 := by
  obtain ⟨e0, rest, f1, f2, f3⟩ := T.at F
  obtain ⟨l, g1, g2⟩ := S0.fr
  rw [f1] at g1; cases g1
  have hLs : L < s.heap.objs.size := by obtain ⟨o, es, ep, e, _⟩ := F.obj; exact Heap.lt_size e
  have Y0 : ∀ {s1 s2 : Shared}, Step (WW w hB mg mb) (fun a => s.heap.objs.size <= a) s1 s2 -> Fra (WW w hB mg mb) fd_314.scope σ X env L L s1.heap -> Fra (WW w hB mg mb) fd_314.scope σ X env L L s2.heap := fun t F => F.stepP fl_314 hσ t (Nat.not_le.mpr hLs)
  refine wpAny_mono (exc_note (W := WW w hB mg mb) (L := L) f1 (g2.step t.fr) f2 f3 t.base (x.flow fun o z => z.elim .inl fun z => .inr (.inl z)) (S0.base.size) t.size) (fun _ s3 q3 => ?_) fun _ _ q => q
  refine wpAny_mono (exc_flight (W := WW w hB mg mb) (q3.1.flow fun o z => by rw [z]; exact nofun) q3.2.base S0.base.size none) (fun _ s4 q4 => ?_) fun _ _ q => q
  have T4 : Step (WW w hB mg mb) (fun a => s.heap.objs.size <= a) s s4 := t.no.trans (q3.2.trans q4.2)
  have F4 := Y0 T4 F
  have x4 := q4.1
  obtain ⟨ea, hea⟩ : ∃ ea, e = .ref ea /\ ∃ o, s4.heap.get? ea = some o /\ o.cls = .ref 52 := by
    obtain ⟨ea, dx, vs, what, t1, t2, tw, hs1, hs2, n, va, sl, sld, rfl, p2, p3, p4, _⟩ := x4
    exact ⟨ea, rfl, _, p4, rfl⟩
  obtain ⟨rfl, oe, he4, hce⟩ := hea
  have XK := ok.inK q4.2.base
  refine wpAny_handleBy_cons (codeAny_handlers_test (wpAny_Name (loadName_glob ok q4.2.base F4.envOK g_314c CE ((exm_one XK (by have := (Looks.ld (M := model (WW w hB mg mb).prog w) (part := none) he4); rw [<- hce]; exact this.andThen .now) (k_x_one _)).here ?_)) (by decide))) (by intro q; cases q)
  refine codeAny_handlers_suite_as ?_
  refine wpAny_mono (exc_flight (W := WW w hB mg mb) (x4.flow fun o z => by rw [z]; exact nofun) q4.2.base S0.base.size none) (fun _ s5 q5 => ?_) fun _ _ q => q
  have F5 := Y0 q5.2 F4
  refine F5.store (x := "error") q5.2.base hlo st_314e (.opq ea) fun s6 t6 F6 => ?_
  have yL : ∀ a, YF fd_314.scope env L a -> a = L := fun a q => q.elim id fun ⟨y, y1, _⟩ => absurd y1 (flat_no fl_314 y).1
  have x6 := q5.1.stepS t6 fun a q => yL a q ▸ hLs
  have T5 := T4.trans q5.2
  have up : ∀ {s1 s2 : Shared} {N : Nat}, L <= N -> Step (WW w hB mg mb) (fun a => N <= a) s1 s2 -> Step (WW w hB mg mb) (fun a => L <= a) s1 s2 := fun h t => t.mono fun a _ q => Nat.le_trans h q
  have T6 : Step (WW w hB mg mb) (fun a => L <= a) s s6 := (up (Nat.le_of_lt hLs) T5).trans (t6.t.mono fun a _ q => Nat.le_of_eq (yL a q).symm)
  have hl6 : s6.heap.IsList a vs.toArray := by
    obtain ⟨o, ho, hc, nn, hd⟩ := hl
    have n1 : o.cls ≠ .none /\ o.cls ≠ .type "frame" := by rw [hc]; decide
    have h5 := T5.keeps.get ho (fun q => Nat.lt_irrefl _ (Nat.lt_of_lt_of_le (Heap.lt_size ho) q)) n1.1 n1.2
    exact ⟨o, t6.t.keeps.get h5 (fun q => haL (yL a q)) n1.1 n1.2, hc, nn, hd⟩
  have hLs6 : L < s6.heap.objs.size := Nat.lt_of_lt_of_le hLs T6.size
  refine ua_suite ok CE GE LN (ea := ea) (a := a) (vs := vs) (σ := σ) (X := X) (L := L) rfl (S0.step T6).mark (fun a q => Nat.lt_of_lt_of_le (priv a q) T6.size) F6 hf hl6 hz x6 fun v s7 x7 t7 => ?_
  have g7 : Stk (WW w hB mg mb) (e0 :: rest) s7.heap := (g2.step T6.fr).step t7.fr
  refine wpAny_mono (exc_note (A := A.mark (some (.ref ea))) (W := WW w hB mg mb) (L := L) f1 g7 f2 f3 t7.base (x7.flow fun o z => .inl z) (Nat.le_trans S0.base.size T6.size) t7.size) (fun _ s8 q8 => ?_) fun _ _ q => q
  have F8 : Fra (WW w hB mg mb) fd_314.scope (("error", .opq ea) :: σ) X env L L s8.heap := F6.stepP fl_314 (by rw [List.all_cons, hσ]; rfl) (t7.trans q8.2) (Nat.not_le.mpr hLs6)
  obtain ⟨m, hm, _⟩ := F8.ns
  obtain ⟨oL, esL, epL, eL, cL, dL⟩ := F8.obj
  have hk : env.kindOf "error" = some .local := by show env.scope.names.lookup _ = _; rw [F8.scope]; exact l_314e
  have hpp : (env.scope.kind == .class || (env.scope.kind == .module && env.locals != env.globals)) = false := by rw [F8.scope]; rfl
  refine name_goes hk (by rw [F8.loc]; exact hm) (by rw [F8.loc]; exact eL) dL hpp fun h9 es9 ep9 ho9 hs9 => ?_
  rw [F8.loc] at ho9 hs9
  have t9 : Step (WW w hB mg mb) (fun a => a = L) s8 { s8 with heap := h9, toks := s8.toks + 1 } := Step.frame (tk := s8.toks + 1) q8.2.base eL cL dL hlo ho9 hs9
  have x9 := q8.1.stepI (X' := X) rfl t9 fun a q => q ▸ hLs6
  generalize hs9' : ({ s8 with heap := h9, toks := s8.toks + 1 } : Shared) = s9 at t9 x9 ⊢
  obtain ⟨ev, dx, vv, what, t1, t2, tw, hs1, hs2, nn, va, sl, sld, rfl, p2', p3', p4', p5', p6', p7', p8'⟩ := id x9
  obtain ⟨Tb, r1⟩ : ∃ Tb, vv[1]? = some (.ref Tb) := by
    rcases p8' with ⟨_, b⟩ | ⟨Tb, _, _, _, r1, _⟩
    · cases b
    · exact ⟨Tb, r1⟩
  unfold PySem.passOn
  refine wpAny_bind (wpAny_field p4' rfl r1 ?_)
  rw [if_neg (by simp)]
  rw [f3]
  refine wpAny_bind (wpAny_mono (exc_flight (A := A.mark (some (.ref ea))) (W := WW w hB mg mb) (x9.flow fun o z => by rw [z]; exact nofun) t9.base (Nat.le_trans S0.base.size T6.size) (some L)) (fun _ s10 q10 => ?_) fun _ _ q => q)
  refine wpAny_throw ?_
  have x10 : Exc (WW w hB mg mb) s10.heap X s6.heap.objs.size (FlAt L) (.ref ev) (.int vs.length) := q10.1.flow fun o z => z
  have g10 : Stk (WW w hB mg mb) (e0 :: rest) s10.heap := (((g7.step q8.2.fr).step t9.fr).step q10.2.fr)
  have sz10 : s6.heap.objs.size <= s10.heap.objs.size := Nat.le_trans t7.size (Nat.le_trans q8.2.size (Nat.le_trans t9.size q10.2.size))
  refine wpAny_mono (exc_note (A := A.mark (some (.ref ea))) (W := WW w hB mg mb) (L := L) f1 g10 f2 f3 q10.2.base (x10.flow fun o z => .inr (.inr z)) (Nat.le_trans S0.base.size T6.size) sz10) (fun _ s11 q11 => ?_) fun _ _ q => q
  refine exc_back q11.2.base (Nat.le_trans S0.base.size T6.size) f3 q11.1 fun s12 t12 x12 => ?_
  refine fin _ s12 (x12.lowI rfl (Nat.le_of_lt hLs6)) ?_
  have hL6 := Nat.le_of_lt hLs6
  exact T6.trans ((up hL6 t7).trans ((up hL6 q8.2).trans ((t9.mono fun a _ q => Nat.le_of_eq q.symm).trans ((up hL6 q10.2).trans ((up hL6 q11.2).trans (up hL6 t12))))))
end
noncomputable def goU (Fu : List PV -> Out PV) (b : List UInt8) : Nat -> Int -> List PV -> Out PV
  | 0, _, _ => .stuck
  | k + 1, i, acc => if i < (b.length : Int) then (match Fu [.bytes b, .int i] with
      | .ok (.tuple [o, .int j]) => goU Fu b k j (acc ++ [o])
      | .err .none => .err (.int acc.length)
      | _ => .stuck) else .ok (.list acc)
noncomputable def uaP (Fu : List PV -> Out PV) (ps : List PV) : Out PV := match ps with
  | [.bytes b] => if b.length <= 100000 then goU Fu b (b.length + 1) 0 [] else .stuck
  | _ => .stuck
noncomputable def Gua (Fu : List PV -> Out PV) : Gl := ⟨fun f => if f == "len" then some lenP else if f == "unpack" then some Fu else none, fun _ => none⟩
noncomputable abbrev sgU (b : List UInt8) (a : Addr) (i : Int) : Vars := [("at", .int i), ("found", .opq a), ("octets", .bytes b)]
theorem r_ua_test (Fu : List PV -> Out PV) (b : List UInt8) (a : Addr) (i : Int) (hb : b.length <= 100000) (p1 p2 p3 p4 p5 : Pos) :
    (run (Gua Fu) 4).t fd_314.scope (sgU b a i) (.Compare (.Name "at" p1) [.Lt] [.Call (.Name "len" p2) [.Name "octets" p3] [] p4] p5) = .ok (decide (i < (b.length : Int))) := by
  have e1 : (run (Gua Fu) 4).t fd_314.scope (sgU b a i) (.Compare (.Name "at" p1) [.Lt] [.Call (.Name "len" p2) [.Name "octets" p3] [] p4] p5) = ((lenP [.bytes b]).bind fun n => cmpop .Lt (.int i) n).bind truthyP := by kernel_rfl
  have e2 : lenP [.bytes b] = .ok (.int b.length) := by
    show (if b.length <= 100000 then _ else _) = _
    rw [if_pos hb]
  rw [e1, e2]; rfl
theorem r_ua_call (Fu : List PV -> Out PV) (b : List UInt8) (a : Addr) (i : Int) (p1 p2 p3 p4 : Pos) :
    (run (Gua Fu) 4).e fd_314.scope (sgU b a i) (.Call (.Name "unpack" p1) [.Name "octets" p2, .Name "at" p3] [] p4) = Fu [.bytes b, .int i] := by kernel_rfl
section
variable {w : World} {hB : Heap} {mg mb : Str -> Option Value} {n : Nat} {A : Around} {X X' : Addr -> Prop} {s s' s0 s2 : Shared} {E : Value -> Shared -> Prop} {σ : Vars} {env : Env} {L old a : Addr}
structure UaI (W : Wd) (X : Addr -> Prop) (env : Env) (L : Addr) (b : List UInt8) (a : Addr) (s1 : Shared) (i : Int) (acc : List PV) (vs : List Value) (s' : Shared) : Prop where
  F : Fra W fd_314.scope (sgU b a i) (fun x => X x \/ x = a) env L L s'.heap
  T : Step W (fun x => L <= x) s1 s'
  l : PlainL s'.heap a vs.toArray
  r : Reps W s'.heap (fun x => X x \/ x = a) vs acc
theorem ua_append (ok : (WW w hB mg mb).Ok) {b : List UInt8} {i j : Int} {acc : List PV} {o : PV} {vs : List Value} {p1 p2 p3 p4 p5 : Pos} {Q : Flow -> Shared -> Prop} (hl : (p2.endLine == p4.line) = true) (haL : L < a) (hlo : hB.objs.size <= L) (hz : vs.length <= 200000)
    (F : Fra (WW w hB mg mb) fd_314.scope (("at", .int j) :: ("order", o) :: sgU b a i) (fun x => X x \/ x = a) env L L s.heap) (B : Base (WW w hB mg mb) s.heap) (l : PlainL s.heap a vs.toArray) (r : Reps (WW w hB mg mb) s.heap (fun x => X x \/ x = a) vs acc)
    (h : ∀ s' v, Fra (WW w hB mg mb) fd_314.scope (sgU b a j) (fun x => X x \/ x = a) env L L s'.heap -> Step (WW w hB mg mb) (fun x => x = a) s s' -> PlainL s'.heap a (vs ++ [v]).toArray -> Reps (WW w hB mg mb) s'.heap (fun x => X x \/ x = a) (vs ++ [v]) (acc ++ [o]) -> Q .next s') :
    wpAny (model (WW w hB mg mb).prog w) A (execs [.Expr (.Call (.Attribute (.Name "found" p1) "append" p2) [.Name "order" p3] [] p4) p5] env) Q E s := by
  obtain ⟨oo, n0, e1, c1, d1, dd⟩ := id l
  refine wpAny_execs_cons (wpAny_Expr_any (meth_any (by rfl) hl (by rfl) (show 1 < 30 by decide) (var_stmt F (by rfl) (by decide) fun u ru => ?_)) ?_ (by rfl))
  · obtain rfl := ru.isOpq
    refine Calls.getMethod_list_append e1 c1 d1 ?_
    refine callWith_fn (P := fun _ => True) (by rfl) keeper_builtin (wpAny_items_cons (var_stmt F (by rfl) (by decide) fun v rv => wpAny_items_nil ⟨trivial, ?_⟩) (by rfl))
    refine list_append_plainL l (fun h' l' sb => ?_) (by simp only [List.size_toArray, sizeLine_eq]; omega)
    have n1 : oo.cls ≠ .none /\ oo.cls ≠ .type "frame" /\ oo.cls ≠ .type "code" := by rw [c1]; decide
    have t : Step (WW w hB mg mb) (fun x => x = a) s { s with heap := h' } := Step.one (tk := s.toks) B e1 (Nat.le_trans hlo (Nat.le_of_lt haL)) n1.1 n1.2.2 n1.2.1 sb
    have rk : ∀ v p, Rep (WW w hB mg mb) s.heap (fun x => X x \/ x = a) v p -> Rep (WW w hB mg mb) h' (fun x => X x \/ x = a) v p := fun v p r => r.keeps t.keeps fun x q => .inr q
    refine wpAny_execs_nil (h _ v ?_ t ?_ ?_)
    · refine (F.step t (fun x q => by
        subst q
        refine ⟨Nat.ne_of_gt haL, fun u ⟨o, e, d⟩ => ?_⟩
        rw [e1] at e; cases e; rw [dd] at d; cases d) rk).sub fun x p q => ?_
      simp only [List.lookup_cons] at q ⊢
      by_cases h1 : (x == "at") = true
      · rw [h1] at q ⊢; exact q
      · have h1' : (x == "at") = false := by simpa using h1
        rw [h1'] at q ⊢
        by_cases h2 : (x == "order") = true
        · have : x = "order" := by simpa using h2
          subst this
          have : (("order" : Str) == "found") = false := by decide
          rw [this] at q
          have : (("order" : Str) == "octets") = false := by decide
          rw [this] at q
          cases q
        · have h2' : (x == "order") = false := by simpa using h2
          rw [h2']; exact q
    · have : (vs ++ [v]).toArray = vs.toArray.push v := by simp
      rw [this]; exact l'
    · refine Reps.append ?_ (.cons (rk _ _ rv) .nil)
      exact r.keeps t.keeps fun x q => .inr q
  · unfold interactive
    rw [F.scope, F.kind]; rfl
end
theorem goU_succ (Fu : List PV -> Out PV) (b : List UInt8) (k : Nat) (i : Int) (acc : List PV) : goU Fu b (k + 1) i acc = if i < (b.length : Int) then (match Fu [.bytes b, .int i] with
      | .ok (.tuple [o, .int j]) => goU Fu b k j (acc ++ [o])
      | .err .none => .err (.int acc.length)
      | _ => .stuck) else .ok (.list acc) := rfl
section
variable {w : World} {hB : Heap} {mg mb : Str -> Option Value} {n : Nat} {A : Around} {X X' : Addr -> Prop} {s s' s0 s1 s2 : Shared} {E : Value -> Shared -> Prop} {σ : Vars} {env : Env} {L old a : Addr}
theorem ua_body (ok : (WW w hB mg mb).Ok) (CE : GlobAt (WW w hB mg mb) "CodeError" (.ref 52)) (GE : GlobAt (WW w hB mg mb) "Exception" (.type "Exception")) (LN : GlobAt (WW w hB mg mb) "len" (.builtin "len"))
    {Fu : List PV -> Out PV} (Yh : Hy (WW w hB mg mb) (Gua Fu) n) {b : List UInt8} (hb : b.length <= 100000) (hne : goU Fu b (b.length + 1) 0 [] ≠ .stuck) {Q : Flow -> Shared -> Prop}
    (S : Sit (WW w hB mg mb) (n + 12) A X s1) (T : AtTop A env) (F : Fra (WW w hB mg mb) fd_314.scope [("octets", .bytes b)] X env L L s1.heap) (hlo : hB.objs.size <= L) (hXL : ∀ x, X x -> x < L)
    (fin : ∀ v p s', goU Fu b (b.length + 1) 0 [] = .ok p -> Rep (WW w hB mg mb) s'.heap X v p -> Step (WW w hB mg mb) (fun x => L <= x) s1 s' -> Q (.ret v) s')
    (bad : ∀ v p s', goU Fu b (b.length + 1) 0 [] = .err p -> Exc (WW w hB mg mb) s'.heap X L (FlAt L) v p -> Step (WW w hB mg mb) (fun x => L <= x) s1 s' -> E v s') :
    wpAny (model (WW w hB mg mb).prog w) A (execs (fBody d_unpack_all.1) env) Q E s1 := by
  have hLs : L < s1.heap.objs.size := by obtain ⟨o, es, ep, e, _⟩ := F.obj; exact Heap.lt_size e
  have H1 : Run (WW w hB mg mb) (n + 12) A X fd_314.scope [("octets", .bytes b)] env L L s1 := ⟨S, T, F, hlo, Nat.le_of_lt hLs⟩
  have SE := (run_sound Yh 4).1
  have ST := (run_sound Yh 4).2.1
  obtain ⟨e0, rest, f1, f2, f3⟩ := T.at F
  obtain ⟨l, g1, g2⟩ := S.fr
  rw [f1] at g1; cases g1
  have yL : ∀ a, YF fd_314.scope env L a -> a = L := fun a q => q.elim id fun ⟨y, y1, _⟩ => absurd y1 (flat_no fl_314 y).1
  delta d_unpack_all fBody
  dsimp only
  refine wpAny_execs_cons (asg_tuple (xs := ["found", "at"]) H1 (by rfl) (by kernel_rfl) ?_)
  refine wpAny_Tuple (wpAny_items_cons (wpAny_List (wpAny_items_nil ⟨by simp [sizeLine_eq], ?_⟩)) (by rfl))
  refine wpAny_items_cons (wpAny_Constant_int (wpAny_items_nil ⟨by simp [sizeLine_eq], ?_⟩)) (by rfl)
  obtain ⟨a, ha⟩ : ∃ a, a = s1.heap.objs.size := ⟨_, rfl⟩
  rw [<- ha]
  have haL : L < a := ha ▸ hLs
  have t12 : Step (WW w hB mg mb) NoA s1 { s1 with heap := (s1.heap.push { cls := .type "list", data := .seq ([] : List Value).toArray }).push { cls := .type "tuple", data := .seq [.ref a, .int 0 s1.toks].toArray }, toks := s1.toks + 1 } :=
    Step.of_all S.base (fun b o e => Heap.get?_push_of_some _ (Heap.get?_push_of_some _ e)) (by simp only [Heap.size_push]; omega)
  have o1 : ((s1.heap.push { cls := .type "list", data := .seq ([] : List Value).toArray }).push { cls := .type "tuple", data := .seq [.ref a, .int 0 s1.toks].toArray }).get? a = some { cls := .type "list", data := .seq ([] : List Value).toArray } := by
    rw [ha]; exact Heap.get?_push_of_some _ (Heap.get?_push_size _ rfl)
  have lD : Value.type "list" ≠ .none /\ Value.type "list" ≠ .type "frame" := by decide
  refine ⟨[.opq a, .int 0], .tuple (vs := [.ref a, .int 0 s1.toks]) (n := 0) (Heap.get?_push_size _ rfl) rfl rfl (fun q => by
    have := S.priv _ q
    simp only [Heap.size_push] at this
    exact Nat.lt_irrefl _ (Nat.lt_trans (Nat.lt_succ_self _) this)) (.cons (.opq a) (.cons (.int 0 _) .nil)), t12, rfl, fun s3 F3 t3 => ?_⟩
  have T3 : Step (WW w hB mg mb) (fun x => L <= x) s1 s3 := t12.no.trans (t3.t.mono fun x _ q => Nat.le_of_eq (yL x q).symm)
  have o3 : s3.heap.get? a = some { cls := .type "list", data := .seq ([] : List Value).toArray } := t3.t.keeps.get o1 (fun q => Nat.ne_of_gt haL (yL _ q)) lD.1 lD.2
  have F3' : Fra (WW w hB mg mb) fd_314.scope (sgU b a 0) (fun x => X x \/ x = a) env L L s3.heap := F3.stepP fl_314 (by rfl) (Step.refl (Y := NoA) T3.base) (fun f => f.elim)
  refine wpAny_execs_cons (wpAny_While (codeAny_whileLoop (fun k s' => ∃ i acc vs, goU Fu b k i acc = goU Fu b (b.length + 1) 0 [] /\ acc.length + k = b.length + 1 /\ UaI (WW w hB mg mb) X env L b a s1 i acc vs s') ?_ (b.length + 1)
    ⟨0, [], [], rfl, by simp, F3', T3, ⟨_, 0, o3, rfl, rfl, rfl⟩, .nil⟩))
  rintro k s4 ⟨i, acc, vs, hg, hk, I4⟩
  obtain ⟨F4, T4, l4, r4⟩ := I4
  have hvl : vs.length = acc.length := r4.length
  have hz : vs.length <= 200000 := by omega
  have ha4 : a < s4.heap.objs.size := l4.lt
  have S4 : Sit (WW w hB mg mb) (n + 12) A (fun x => X x \/ x = a) s4 := ⟨T4.base, S.room, S.hand, ⟨e0 :: rest, f1, g2.step T4.fr⟩, fun x q => q.elim (fun q => Nat.lt_of_lt_of_le (S.priv x q) T4.size) fun q => q ▸ ha4⟩
  have hne4 := hne
  rw [<- hg] at hne4
  induction k using Nat.casesOn with
  | zero => exact (hne4 rfl).elim
  | succ k =>
  rw [goU_succ] at hg hne4
  refine wpAny_mono (ST _ _ _ env A _ s4 S4 T F4.envOK (by rw [r_ua_test Fu b a i hb]; exact nofun)) (fun q s5 hq => ?_) fun e s5 hq => ?_
  · obtain ⟨q', hq', rq, t5⟩ := hq
    rw [r_ua_test Fu b a i hb] at hq'
    cases hq'
    obtain rfl : q = decide (i < (b.length : Int)) := rq
    have F5 := F4.no t5
    have T5 : Step (WW w hB mg mb) (fun x => L <= x) s1 s5 := T4.trans t5.no
    have l5 : PlainL s5.heap a vs.toArray := by
      obtain ⟨o, nn, e1, c1, d1, dd⟩ := l4
      exact ⟨o, nn, t5.keeps.get e1 id (by rw [c1]; exact nofun) (by rw [c1]; decide), c1, d1, dd⟩
    have r5 : Reps (WW w hB mg mb) s5.heap (fun x => X x \/ x = a) vs acc := r4.keeps t5.keeps fun x f => f.elim
    have S5 := S4.step t5
    by_cases hi : i < (b.length : Int)
    · rw [if_pos hi] at hg hne4
      rw [decide_eq_true hi]
      simp only [if_true]
      have H5 : Run (WW w hB mg mb) (n + 12) A (fun x => X x \/ x = a) fd_314.scope (sgU b a i) env L L s5 := ⟨S5, T, F5, hlo, Nat.le_trans (Nat.le_of_lt haL) (Nat.le_of_lt l5.lt)⟩
      have hnc : (run (Gua Fu) 4).e fd_314.scope (sgU b a i) (.Call (.Name "unpack" default) [.Name "octets" default, .Name "at" default] [] default) ≠ .stuck := by
        rw [r_ua_call]
        intro q
        rw [q] at hne4
        exact hne4 rfl
      refine wpAny_execs_cons (wpAny_Try_except (wpAny_execs_cons (asg_tuple (xs := ["order", "at"]) H5 (by rfl) (by kernel_rfl) (wpAny_mono (SE _ _ _ env A _ s5 S5 T F5.envOK (by rw [r_ua_call]; rw [r_ua_call] at hnc; exact hnc)) (fun v s6 hv => ?_) fun e s6 hv => ?_))))
      · obtain ⟨p, hp, rp, t6⟩ := hv
        rw [r_ua_call] at hp
        rw [hp] at hg hne4
        obtain ⟨o, j, rfl⟩ : ∃ o j, p = .tuple [o, .int j] := by
          split at hne4
          · rename_i h; cases h; exact ⟨_, _, rfl⟩
          · rename_i h; cases h
          · exact (hne4 rfl).elim
        simp only at hg
        refine ⟨[o, .int j], rp, t6, rfl, fun s7 F7 t7 => ?_⟩
        refine wpAny_execs_nil (wpAny_execs_nil ?_)
        have T7' : Step (WW w hB mg mb) (fun x => L <= x) s5 s7 := t6.no.trans (t7.t.mono fun x _ q => Nat.le_of_eq (yL x q).symm)
        have l7 : PlainL s7.heap a vs.toArray := by
          obtain ⟨oo, nn, e1, c1, d1, dd⟩ := l5
          have n1 : oo.cls ≠ .none /\ oo.cls ≠ .type "frame" := by rw [c1]; decide
          exact ⟨oo, nn, t7.t.keeps.get (t6.keeps.get e1 id n1.1 n1.2) (fun q => Nat.ne_of_gt haL (yL _ q)) n1.1 n1.2, c1, d1, dd⟩
        have r7 : Reps (WW w hB mg mb) s7.heap (fun x => X x \/ x = a) vs acc := t7.r.reps (r5.keeps t6.keeps fun x f => f.elim)
        refine ua_append (X := X) ok (by rfl) haL hlo hz F7 T7'.base l7 r7 fun s8 v F8 t8 l8 r8 => ?_
        exact ⟨k, Nat.lt_succ_self _, j, acc ++ [o], vs ++ [v], hg, by rw [List.length_append]; simp; omega, F8, T5.trans (T7'.trans (t8.mono fun x _ q => q ▸ Nat.le_of_lt haL)), l8, r8⟩
      · obtain ⟨pa, hp, x6, t6⟩ := hv
        rw [r_ua_call] at hp
        rw [hp] at hg hne4
        obtain rfl : pa = .none := by
          split at hne4
          · rename_i h; cases h
          · rename_i h; cases h; rfl
          · exact (hne4 rfl).elim
        simp only at hg
        refine ua_handler (n := n + 10) (a := a) (vs := vs) (X := fun x => X x \/ x = a) ok CE GE LN S5.to0 S5.priv T F5 (by rfl) hlo (by rfl) l5.isList (Nat.ne_of_gt haL) hz t6 x6 fun v s7 x7 t7 => ?_
        have g7 : Stk (WW w hB mg mb) (e0 :: rest) s7.heap := (g2.step T5.fr).step t7.fr
        have sz7 : L <= s7.heap.objs.size := Nat.le_trans (Nat.le_of_lt hLs) (Nat.le_trans T5.size t7.size)
        refine wpAny_mono (exc_note (W := WW w hB mg mb) (L := L) f1 g7 f2 f3 t7.base (x7.flow fun o z => .inr (.inr z)) hlo sz7) (fun _ s8 q8 => ?_) fun _ _ q => q
        refine exc_back q8.2.base hlo f3 q8.1 fun s9 t9 x9 => ?_
        refine bad v _ s9 (hg.symm.trans (by rw [hvl])) (x9.lowI rfl (Nat.le_refl _)) (T5.trans (t7.trans (q8.2.trans t9)))
    · rw [if_neg hi] at hg
      rw [decide_eq_false hi]
      simp only [Bool.false_eq_true, if_false]
      refine wpAny_execs_nil ?_
      refine wpAny_execs_cons (wpAny_Return_some (var_stmt F5 (by rfl) (by decide) fun u ru => ?_))
      obtain rfl := ru.isOpq
      obtain ⟨oo, nn, e1, c1, d1, dd⟩ := l5
      exact fin _ _ _ hg.symm (.list e1 c1 dd (fun q => Nat.lt_irrefl _ (Nat.lt_trans haL (hXL _ q))) d1 (r5.widen fun x _ q => .inl q)) T5
  · obtain ⟨pa, hp, _⟩ := hq
    rw [r_ua_test Fu b a i hb] at hp
    cases hp
theorem ua_ok (ok : (WW w hB mg mb).Ok) (CE : GlobAt (WW w hB mg mb) "CodeError" (.ref 52)) (GE : GlobAt (WW w hB mg mb) "Exception" (.type "Exception")) (LN : GlobAt (WW w hB mg mb) "len" (.builtin "len"))
    {Fu : List PV -> Out PV} (Yh : Hy (WW w hB mg mb) (Gua Fu) n) : FnOK (WW w hB mg mb) (n + 13) (.ref 314) (uaP Fu) where
  kp := .inr kp_314
  run := fun A X s vs ps S r hne => by
    unfold uaP at hne ⊢
    split at hne
    · rename_i b
      split at hne
      · rename_i hb
        rw [if_pos hb]
        cases r with | cons rv r =>
        cases r
        rename_i v
        obtain ⟨l, hA, St⟩ := S.fr
        refine wpAny_call (def_in (n := n + 12) (X := X) ok D_314 sc_314 S.to0 (BindsTo.of_eq (bi_314 [v] rfl)) (.cons rv .nil) fun env s1 t1 S1 T1 F1 => ?_)
        have S2 : Sit (WW w hB mg mb) (n + 12) (A.deeper env) X s1 := ⟨S1.base, S1.room, S.hand, S1.fr, fun a z => Nat.lt_of_lt_of_le (S.priv a z) t1.size⟩
        refine ua_body ok CE GE LN Yh hb hne S2 T1 F1 S.base.size (fun x q => S.priv x q) (fun v p s' hp rp t => ?_) fun v p s' hp xp t => ?_
        · exact ⟨p, hp, rp, (t1.trans t).mono fun a ha z => absurd ha (Nat.not_lt.mpr z)⟩
        · obtain ⟨oL, es, ep, eL, cL, dL⟩ := F1.obj
          obtain ⟨o', es', ep', e', c', d'⟩ := t.fr _ _ _ _ eL cL dL
          exact leave_exc hA St (t1.trans t) (by rw [F1.scope]; exact F1.kind) F1.fr ⟨o', es', ep', e', c', d'⟩ S.base.size (xp.flow fun o z => .inr (.inr z)) fun s4 t4 x4 => ⟨p, hp, x4, t4⟩
      · exact (hne rfl).elim
    · exact (hne rfl).elim
end
noncomputable def catP : List PV -> List PV -> Option (List PV)
  | acc, [] => some acc
  | acc, .list y :: r => if acc.length + y.length <= 100000 then catP (acc ++ y) r else none
  | _, _ => none
noncomputable def isNilL (u : PV) : Bool := match u with
  | .list l => isE l
  | _ => false
theorem isNilL_eq {u : PV} (h : isNilL u = true) : u = .list [] := by
  induction u using PV.casesOn with
  | list l => exact congrArg PV.list (isE_eq h)
  | _ => exact nomatch h
noncomputable def sumP2 (ps : List PV) : Out PV := match ps with
  | [] => .stuck
  | v :: r => (match r with
    | [] => sumP [v]
    | u :: q => onNil q (onTrue (isNilL u) (onList v fun xs => if xs.length <= 1000 then (outOpt (catP [] xs)).bind fun l => .ok (.list l) else .stuck)))
theorem sum_args2 (a b : Value) : argsOk "sum" ⟨[a, b], []⟩ := by unfold argsOk; kernel_rfl
section
variable {W : Wd} {n : Nat} {A : Around} {X X' : Addr -> Prop} {s s' : Shared} {E : Value -> Shared -> Prop} {R : Result -> Shared -> Prop}
theorem Sit.in1 (S : Sit W (n + 1) A X s) : Sit W n A.in1 X s := ⟨S.base, ⟨by have := S.room.1; show A.depth + n < 900; omega, by have := S.room.2; show A.units + 1 + 10 * n + 200 < 9900; omega⟩, S.hand, S.fr, S.priv⟩
noncomputable abbrev stObj (v : Value) (c : Nat) : Obj := { cls := .type "list", dict := none, data := .seq #[v] c, slots := #[] }
theorem sum_loopL {I S ax : Addr} {xs res : List PV} {Z : Addr -> Prop} (hZ : Z = fun a => a = I \/ a = S) (xI : X' I) (xS : X' S) (hIS : I ≠ S) (haI : ax ≠ I) (hBI : W.hB.objs.size <= I) (hBS : W.hB.objs.size <= S) :
    ∀ (k i : Nat) (s : Shared) (acc : List PV) (tot : Value) (c : Nat), xs.length - i = k -> i <= xs.length -> (s.heap.IsListIter I ax i /\ Rep W s.heap X' (.ref ax) (.list xs)) -> s.heap.get? S = some (stObj tot c) -> Rep W s.heap X' tot (.list acc) ->
      catP acc (xs.drop i) = some res -> Sit W (n + 1) A X' s -> (∀ v s', Rep W s'.heap X' v (.list res) -> Step W Z s s' -> R (.ok (.ret v)) s') -> codeAny (model W.prog W.w) A (.builtin "sum.loop" ⟨[.ref I, .ref S, rawInt 2, rawInt 0], []⟩) R s := by
  have lD : Value.type "list" ≠ .none /\ Value.type "list" ≠ .type "frame" /\ Value.type "list" ≠ .type "code" := by decide
  intro k
  induction k with
  | zero =>
    intro i s acc tot c hk hi hst hS hr hc St hR
    have hin : i = xs.length := by omega
    subst hin
    rw [List.drop_length] at hc
    obtain rfl := Option.some.inj hc
    have src : Src W A.in1 I xs X' _ := Src.list (A := A.in1) St.hand haI hBI xI
    refine codeAny_builtin PySem.F.entry_sum_loop ?_
    rw [Around.under_plainId PySem.F.plain_sum_loop _]
    show wpAny _ A.in1 (seqItems? (.ref S) >>= _) _ _ s
    refine wpAny_bind (wpAny_seqItems hS rfl ?_)
    show wpAny _ A.in1 (tryCatch (pyNext (.ref I)) _ >>= _) _ _ s
    refine wpAny_bind (wpAny_tryCatch (src.done hst St.base fun s1 t1 => ?_))
    have rt : Rep W s1.heap X' tot (.list acc) := hr.keeps t1.keeps fun a q => q ▸ xI
    obtain ⟨ta, _, _, _, rfl, _⟩ := hr.isList
    exact wpAny_pure (hR _ s1 rt (t1.mono fun a _ q => by rw [hZ]; exact .inl q))
  | succ k ih =>
    intro i s acc tot c hk hi hst hS hr hc St hR
    have hlt : i < xs.length := by omega
    have hpx : xs[i]? = some xs[i] := by simp [hlt]
    have hdrop : xs.drop i = xs[i] :: xs.drop (i + 1) := List.drop_eq_getElem_cons hlt
    generalize xs[i] = x at hpx hdrop
    rw [hdrop] at hc
    obtain ⟨y, rfl, hle, hc'⟩ : ∃ y, x = .list y /\ acc.length + y.length <= 100000 /\ catP (acc ++ y) (xs.drop (i + 1)) = some res := by
      induction x using PV.casesOn with
      | list y =>
        have e0 : catP acc (.list y :: xs.drop (i + 1)) = if acc.length + y.length <= 100000 then catP (acc ++ y) (xs.drop (i + 1)) else none := rfl
        rw [e0] at hc
        by_cases h : acc.length + y.length <= 100000
        · rw [if_pos h] at hc; exact ⟨y, rfl, h, hc⟩
        · rw [if_neg h] at hc; exact nomatch hc
      | _ => exact nomatch hc
    have src : Src W A.in1 I xs X' _ := Src.list (A := A.in1) St.hand haI hBI xI
    refine codeAny_builtin PySem.F.entry_sum_loop ?_
    rw [Around.under_plainId PySem.F.plain_sum_loop _]
    show wpAny _ A.in1 (seqItems? (.ref S) >>= _) _ _ s
    refine wpAny_bind (wpAny_seqItems hS rfl ?_)
    show wpAny _ A.in1 (tryCatch (pyNext (.ref I)) _ >>= _) _ _ s
    refine wpAny_bind (wpAny_tryCatch (src.item hst St.base hpx fun v s1 st1 t1 rv => ?_))
    have rt : Rep W s1.heap X' tot (.list acc) := hr.keeps t1.keeps fun a q => q ▸ xI
    have hS1 : s1.heap.get? S = some (stObj tot c) := t1.keeps.get hS (Ne.symm hIS) lD.1 lD.2.1
    have St1 : Sit W (n + 1) A X' s1 := St.stepY t1
    obtain ⟨ta, _, _, _, rfl, _⟩ := hr.isList
    obtain ⟨va, _, _, _, rfl, _⟩ := rv.isList
    have eb : binop .Add (.list acc) (.list y) = .ok (.list (acc ++ y)) := by
      show (if acc.length + y.length <= 100000 then _ else _) = _
      rw [if_pos hle]
    show wpAny _ A.in1 ((holding [.ref va] (binaryOp .Add (.ref ta) (.ref va))).attempt >>= _) _ _ _
    refine wpAny_bind (wpAny_attempt (wpAny_holding (wpAny_mono (snd_binop (E := fun _ _ => False) St1.in1 rt rv (by rw [eb]; exact nofun)) (fun r s2 q => ?_) fun _ _ q => q.elim)))
    rw [eb] at q
    obtain ⟨p, hp, rr, t2⟩ := q
    cases hp
    have hS2 := t2.keeps.get hS1 id lD.1 lD.2.1
    have g3 : (s2.heap.update S (Obj.mapSeq fun _ => #[r])).get? S = some _ := Heap.get?_update_self _ hS2 rfl
    have sb3 : Heap.SameBut S s2.heap (s2.heap.update S (Obj.mapSeq fun _ => #[r])) := Heap.SameBut.update ..
    have t3 : Step W (fun a => a = S) s2 { s2 with heap := s2.heap.update S (Obj.mapSeq fun _ => #[r]) } := Step.one (tk := s2.toks) t2.base hS2 hBS lD.1 lD.2.2 lD.2.1 sb3
    refine wpAny_bind (wpAny_updateSeq hS2 rfl (wpAny_bind (wpAny_letGo ?_)))
    have g4 : ((s2.heap.update S (Obj.mapSeq fun _ => #[r])).update S (Obj.mapSeq fun _ => #[r])).get? S = some _ := Heap.get?_update_self _ g3 rfl
    have sb4 : Heap.SameBut S (s2.heap.update S (Obj.mapSeq fun _ => #[r])) ((s2.heap.update S (Obj.mapSeq fun _ => #[r])).update S (Obj.mapSeq fun _ => #[r])) := Heap.SameBut.update ..
    have t4 : Step W (fun a => a = S) { s2 with heap := s2.heap.update S (Obj.mapSeq fun _ => #[r]) } { s2 with heap := (s2.heap.update S (Obj.mapSeq fun _ => #[r])).update S (Obj.mapSeq fun _ => #[r]) } := Step.one (s := { s2 with heap := s2.heap.update S (Obj.mapSeq fun _ => #[r]) }) (tk := s2.toks) t3.base g3 hBS lD.1 lD.2.2 lD.2.1 sb4
    refine wpAny_bind (wpAny_updateSeq g3 rfl (wpAny_pure ⟨plainId_quiet PySem.F.plain_sum_loop _, ?_⟩))
    have t34 := t3.trans t4
    have rk : ∀ v p, Rep W s2.heap X' v p -> Rep W ((s2.heap.update S (Obj.mapSeq fun _ => #[r])).update S (Obj.mapSeq fun _ => #[r])) X' v p := fun v p r => r.keeps t34.keeps fun a q => q ▸ xS
    refine ih (i + 1) { s2 with heap := (s2.heap.update S (Obj.mapSeq fun _ => #[r])).update S (Obj.mapSeq fun _ => #[r]) } (acc ++ y) r _ (by omega) hlt ?_ g4 (rk _ _ rr) hc' ((St1.step t2).stepY t34) fun v s' rv' t' => hR v s' rv' ?_
    · exact src.keepR (src.keep st1 t2.keeps fun a f => f.elim) rk fun o e _ _ => (sb4.extBut I o hIS (sb3.extBut I o hIS e))
    · rw [hZ] at t' ⊢
      exact (t1.mono fun a _ q => .inl q).trans (t2.no.trans ((t34.mono fun a _ q => .inr q).trans t'))
theorem sum2_ok : FnOK W (n + 2) (.builtin "sum") sumP2 where
  kp := .inl nofun
  run := fun A X s vs ps S r hne => by
    induction ps using List.casesOn with
    | nil => exact (hne rfl).elim
    | cons v0 q0 => induction q0 using List.casesOn with
      | nil => exact (sum_ok (W := W) (n := n + 2)).run A X s vs _ S r hne
      | cons u0 q =>
      obtain rfl := onNil_is (l := q) hne
      obtain rfl := isNilL_eq (onTrue_is (b := isNilL u0) hne)
      obtain ⟨xs, rfl⟩ := onList_is (v := v0) hne
      have hne : (if xs.length <= 1000 then (outOpt (catP [] xs)).bind fun l => Out.ok (PV.list l) else .stuck) ≠ .stuck := hne
      have hx := ite_is hne
      rw [if_pos hx] at hne
      obtain ⟨res, hres⟩ := outOpt_ne (bind_ne hne)
      have e0 : sumP2 [.list xs, .list []] = .ok (.list res) := by
        show (if xs.length <= 1000 then (outOpt (catP [] xs)).bind fun l => Out.ok (PV.list l) else .stuck) = _
        rw [if_pos hx, hres]; rfl
      rw [e0]
      obtain ⟨va, vb, rfl, ra, rb⟩ := r.is2
      obtain ⟨ax, _, _, _, rfl, _⟩ := ra.isList
      obtain ⟨bx, _, _, _, rfl, _⟩ := rb.isList
      obtain ⟨us, h1, r1, n1⟩ := rep_list ra
      obtain ⟨ws, h2, r2, n2⟩ := rep_list rb
      have lB : bx < s.heap.objs.size := by obtain ⟨o, e, _⟩ := h2; exact Heap.lt_size e
      have lA : ax < s.heap.objs.size := by obtain ⟨o, e, _⟩ := h1; exact Heap.lt_size e
      refine call_function_tree PySem.F.kind_sum PySem.F.plain_sum PySem.F.entry_sum (sum_args2 _ _) ?_
      unfold Builtin.«sum»
      simp only [List.length_cons, List.length_nil]
      rw [if_neg (by decide)]
      refine wpAny_bind (wpAny_of_eq (show Builtin.Builtins.bindParams "sum" ["start"] 0 ⟨[.ref bx], []⟩ = pure [some (.ref bx)] from rfl) ?_)
      refine wpAny_bind (wpAny_pyIter_list h1 ?_)
      have hT : ({ s with heap := s.heap.push { cls := .type "list_iterator", data := .fields #[.ref ax, .int 0 0] } } : Shared).TypeIs (.ref bx) "list" := by
        obtain ⟨o, e, c, _⟩ := h2
        exact ⟨o, Heap.get?_push_of_some _ e, c⟩
      refine wpAny_bind (wpAny_pure ?_)
      simp only [List.forIn_cons, List.forIn_nil]
      refine wpAny_bind (wpAny_bind (wpAny_bind (wpAny_isInstance (T := "list") (b := false) hT PySem.F.sub_list_str ?_)))
      simp only [Bool.false_eq_true, if_false]
      refine wpAny_pure (wpAny_bind (wpAny_bind (wpAny_isInstance (T := "list") (b := false) hT PySem.F.sub_list_bytes ?_)))
      simp only [Bool.false_eq_true, if_false]
      refine wpAny_pure (wpAny_bind (wpAny_bind (wpAny_isInstance (T := "list") (b := false) hT PySem.F.sub_list_bytearray ?_)))
      simp only [Bool.false_eq_true, if_false]
      refine wpAny_pure (wpAny_pure ?_)
      refine wpAny_bind (wpAny_newObj_type ?_)
      obtain ⟨I, hI⟩ : ∃ I, I = s.heap.objs.size := ⟨_, rfl⟩
      obtain ⟨Sx, hSx⟩ : ∃ Sx, Sx = s.heap.objs.size + 1 := ⟨_, rfl⟩
      have sz1 : (s.heap.push { cls := .type "list_iterator", data := .fields #[.ref ax, .int 0 0] }).objs.size = s.heap.objs.size + 1 := Heap.size_push ..
      simp only [sz1]
      have t1 : Step W NoA s { s with heap := (s.heap.push { cls := .type "list_iterator", data := .fields #[.ref ax, .int 0 0] }).push (stObj (.ref bx) 0) } :=
        Step.of_all (tk := s.toks) S.base (fun b o e => Heap.get?_push_of_some _ (Heap.get?_push_of_some _ e)) (by simp only [Heap.size_push]; omega)
      obtain ⟨X', hX'⟩ : ∃ X' : Addr -> Prop, X' = fun a => X a \/ a = I \/ a = Sx := ⟨_, rfl⟩
      have old : ∀ a, a < s.heap.objs.size -> X' a -> X a := fun a ha q => by
        rw [hX'] at q
        rcases q with q | q | q
        · exact q
        · rw [q, hI] at ha; exact absurd ha (Nat.lt_irrefl _)
        · rw [q, hSx] at ha; exact absurd (Nat.lt_trans (Nat.lt_succ_self _) ha) (Nat.lt_irrefl _)
      have gI : ((s.heap.push { cls := .type "list_iterator", data := .fields #[.ref ax, .int 0 0] }).push (stObj (.ref bx) 0)).get? I = some { cls := .type "list_iterator", data := .fields #[.ref ax, .int 0 0] } := by
        rw [hI]; exact Heap.get?_push_of_some _ (Heap.get?_push_size _ rfl)
      have gS : ((s.heap.push { cls := .type "list_iterator", data := .fields #[.ref ax, .int 0 0] }).push (stObj (.ref bx) 0)).get? Sx = some (stObj (.ref bx) 0) := by
        have := Heap.get?_push_size (s.heap.push { cls := .type "list_iterator", data := .fields #[.ref ax, .int 0 0] }) (o := stObj (.ref bx) 0) rfl
        rw [sz1] at this
        rw [hSx]; exact this
      have hIS : I ≠ Sx := by rw [hI, hSx]; exact Nat.ne_of_lt (Nat.lt_succ_self _)
      have S1 : Sit W (n + 2) A X' { s with heap := (s.heap.push { cls := .type "list_iterator", data := .fields #[.ref ax, .int 0 0] }).push (stObj (.ref bx) 0) } :=
        ⟨t1.base, S.room, S.hand, (S.step t1).fr, fun a q => by
          rw [hX'] at q
          rcases q with q | q | q
          · exact Nat.lt_of_lt_of_le (S.priv a q) t1.size
          · exact q ▸ Heap.lt_size gI
          · exact q ▸ Heap.lt_size gS⟩
      refine wpAny_pure ⟨plainId_quiet PySem.F.plain_sum_loop _, ?_⟩
      have main := sum_loopL (W := W) (n := n + 1) (A := A) (I := I) (S := Sx) (ax := ax) (xs := xs) (res := res) (X' := X') (R := fun r s' => match r with | .ok (.ret v) => Post W s (RV W X) (((outOpt (some res)).bind fun l => .ok (.list l)) : Out PV) v s' | .ok _ => False | .error e => Epost W X s (((outOpt (some res)).bind fun l => .ok (.list l)) : Out PV) e s')
        (Z := fun a => a = I \/ a = Sx) rfl (by rw [hX']; exact .inr (.inl rfl)) (by rw [hX']; exact .inr (.inr rfl)) hIS (by rw [hI]; exact Nat.ne_of_lt lA) (by rw [hI]; exact S.base.size) (by rw [hSx]; exact Nat.le_trans S.base.size (Nat.le_succ _))
        (xs.length) 0 _ [] (.ref bx) 0 (by omega) (Nat.zero_le _) ⟨⟨_, gI, rfl, rfl⟩, (ra.widen old).keeps t1.keeps fun a f => f.elim⟩ gS ((rb.widen old).keeps t1.keeps fun a f => f.elim) hres S1
        fun v s' rv t => ⟨.list res, rfl, rv.widen fun a _ q => by rw [hX']; exact .inl q, (t1.no.trans t).mono fun a ha q => by
          rcases q with q | q
          · rw [q, hI] at ha; exact absurd ha (Nat.lt_irrefl _)
          · rw [q, hSx] at ha; exact absurd (Nat.lt_trans (Nat.lt_succ_self _) ha) (Nat.lt_irrefl _)⟩
      rw [hI, hSx] at main
      exact main
end
section
variable (G : Gl) (J : I) (sc sc' : Scope) (σ : Vars) (n : Nat)
noncomputable def kB (r : List Stmt) (q : Res) : Out Res := match q with
  | .next σ' => exB J sc r σ'
  | .ret v => .ok (.ret v)
noncomputable def kX (_v : PV) : Out Res := .ok (.next σ)
noncomputable def kAs (x : Str) (v : PV) : Out Res := .ok (.next ((x, v) :: σ))
noncomputable def kI (b o : List Stmt) (c : Bool) : Out Res := if c then J.b sc σ b else J.b sc σ o
noncomputable def kR (v : PV) : Out Res := .ok (.ret v)
noncomputable def kL2 (v : PV) (vs : List PV) : Out (List PV) := .ok (v :: vs)
noncomputable def kL (r : List Expr) (v : PV) : Out (List PV) := (evList J sc σ r).bind (kL2 v)
noncomputable def kTs (op : BoolOp) (r : List Expr) (t : Bool) : Out Bool := boK op t (.ok (op == .Or)) (tsBool J sc σ op r)
end
section
variable {G : Gl} {J : I} {sc sc' : Scope} {σ : Vars} {n : Nat}
theorem bd_ok {α β : Type} (a : α) (f : α -> Out β) : (Out.ok a).bind f = f a := rfl
theorem r_b (b : List Stmt) : (run G (n + 1)).b sc σ b = exB (run G n) sc b σ := rfl
theorem r_e (e : Expr) : (run G (n + 1)).e sc σ e = evE G (run G n) sc σ e := rfl
theorem b_cons (s : Stmt) (r : List Stmt) : exB J sc (s :: r) σ = (exS J sc σ s).bind (kB J sc r) := rfl
theorem kB_n (r : List Stmt) : kB J sc r (.next σ) = exB J sc r σ := rfl
theorem s_expr (e : Expr) (p : Pos) : exS J sc σ (.Expr e p) = if isComp e then .stuck else (J.e sc σ e).bind (kX σ) := rfl
theorem s_asg (t e : Expr) (p : Pos) : exS J sc σ (.Assign [t] e p) = asgP J sc σ t e := rfl
theorem s_if (t : Expr) (b o : List Stmt) (p : Pos) : exS J sc σ (.If t b o p) = (J.t sc σ t).bind (kI J sc σ b o) := rfl
theorem kI_t (b o : List Stmt) : kI J sc σ b o true = J.b sc σ b := rfl
theorem kI_f (b o : List Stmt) : kI J sc σ b o false = J.b sc σ o := rfl
theorem s_ret (e : Expr) (p : Pos) : exS J sc σ (.Return (some e) p) = (J.e sc σ e).bind kR := rfl
theorem a_name (x : Str) (p : Pos) (e : Expr) : asgP J sc σ (.Name x p) e = if isStored sc x then (asgE J sc σ e).bind (kAs σ x) else .stuck := rfl
theorem l_nil : evList J sc σ [] = .ok [] := rfl
theorem l_cons (e : Expr) (r : List Expr) : evList J sc σ (e :: r) = if isStar e then .stuck else (J.e sc σ e).bind (kL J sc σ r) := rfl
theorem kL_ (r : List Expr) (v : PV) : kL J sc σ r v = (evList J sc σ r).bind (kL2 v) := rfl
theorem kL2_ (v : PV) (vs : List PV) : kL2 v vs = .ok (v :: vs) := rfl
theorem ts_cons (op : BoolOp) (e : Expr) (r : List Expr) : tsBool J sc σ op (e :: r) = (J.t sc σ e).bind (kTs J sc σ op r) := rfl
theorem e_call (fn : Expr) (args : List Expr) (kws : List Keyword) (p : Pos) : evE G J sc σ (.Call fn args kws p) = callP G J sc σ fn args kws p := rfl
theorem lk_cons {β : Type} (x a : Str) (b : β) (r : List (Str × β)) : List.lookup x ((a, b) :: r) = if x == a then some b else List.lookup x r := by
  rw [List.lookup_cons]; cases x == a <;> rfl
theorem p_bool (b : Bool) : truthyP (.bool b) = .ok b := rfl
theorem bo_mod (x y : Int) : binop .Mod (.int x) (.int y) = if y = 0 then .stuck else .ok (.int (Int.fmod x y)) := rfl
theorem bo_div (x y : Int) : binop .FloorDiv (.int x) (.int y) = if y = 0 \/ 8000 <= y.natAbs.log2 then .stuck else .ok (.int (Int.fdiv x y)) := rfl
end
noncomputable def gcs (x : Str) : Option PV := List.lookup x [
  ((Str.ofString "LD"), PV.int 0), ("LDX", .int 1), ("ST", .int 2), ("STX", .int 3), ("ALU", .int 4), ("JMP", .int 5), ("JMP32", .int 6), ("ALU64", .int 7),
  ("BY_REGISTER", .int 8), ("WIDE", .int 24), ("CALL", .int 133), ("EXIT", .int 149),
  ("MODE_IMM", .int 0), ("MODE_ABS", .int 32), ("MODE_IND", .int 64), ("MODE_MEM", .int 96), ("MODE_MEMSX", .int 128), ("MODE_ATOMIC", .int 192),
  ("FETCH", .int 1), ("XCHG", .int 225), ("CMPXCHG", .int 241), ("KNOWN", .int 14), ("SLOT", .int 8), ("MOST_REGISTER", .int 10),
  ("DEEDS", .str (Str.ofString "add sub mul div or  and lsh rsh neg mod xor mov arshend ")), ("JUMPS", .str (Str.ofString "ja  eq  gt  ge  set ne  sgt sge callexitlt  le  slt sle "))]
noncomputable abbrev Fns := List (Str × (List PV -> Out PV))
noncomputable def GL (l : Fns) : Gl := ⟨fun x => List.lookup x l, gcs⟩
noncomputable def allBytes (f : Int -> Bool) : Bool := (List.range 256).all fun k => f (k : Nat)
theorem byte_all {f : Int -> Bool} (h : allBytes f = true) {c : Int} (h0 : 0 <= c) (h1 : c < 256) : f c = true := by
  have := List.all_eq_true.mp h c.toNat (List.mem_range.mpr (by omega))
  rwa [show ((c.toNat : Nat) : Int) = c by omega] at this
section
variable {G : Gl} {J : I} {sc sc' : Scope} {σ : Vars} {n : Nat}
variable (c d s o i m : Int)
end
theorem u8_64 (a : UInt8) : ((a.toNat : Int)).natAbs < 2 ^ 64 := by have := a.toNat_lt; omega
theorem by2 {a b : Int} (ha : 0 <= a /\ a < 256) (hb : 0 <= b /\ b < 256) : bytesP [.list [.int a, .int b]] = .ok (.bytes [a.toNat.toUInt8, b.toNat.toUInt8]) := by
  unfold bytesP; simp [only, onList, allInts, outOpt, Out.bind, ha, hb]
theorem by4 {a b c d : Int} (ha : 0 <= a /\ a < 256) (hb : 0 <= b /\ b < 256) (hc : 0 <= c /\ c < 256) (hd : 0 <= d /\ d < 256) : bytesP [.list [.int a, .int b, .int c, .int d]] = .ok (.bytes [a.toNat.toUInt8, b.toNat.toUInt8, c.toNat.toUInt8, d.toNat.toUInt8]) := by
  unfold bytesP; simp [only, onList, allInts, outOpt, Out.bind, ha, hb, hc, hd]
theorem shr8 (w : Int) (k : Nat) : Builtin.bitAnd (w.fdiv (2 ^ k)) 255 = w / 2 ^ k % 256 := by
  rw [bitAnd_m8, Int.fdiv_eq_ediv_of_nonneg _ (Int.le_of_lt (Int.pow_pos (by decide)))]
theorem bitAnd_m1n (x : Int) : Builtin.bitAnd x (-1) = x := by
  unfold Builtin.bitAnd
  have : decide (0 <= (-1 : Int)) = false := by decide
  rw [this]
  cases h : decide (0 <= x)
  · have := of_decide_eq_false h
    simp [Builtin.bitNot]; omega
  · simp [Builtin.bitNot]
theorem bitAnd_even (x : Int) : Builtin.bitAnd x (-2) = x - x % 2 := by
  rw [kbt_halves, show (-2 : Int) / 2 = -1 by decide, bitAnd_m1n]
  rw [if_neg (by simp)]
  omega
abbrev M (α : Type) := Out α × List Prop
noncomputable def allP (l : List Prop) : Prop := l.foldr And True
theorem allP_app {a b : List Prop} : allP (a ++ b) -> allP a /\ allP b := by
  induction a with
  | nil => exact fun h => ⟨trivial, h⟩
  | cons p r ih => exact fun h => ⟨⟨h.1, (ih h.2).1⟩, (ih h.2).2⟩
section
variable {α β : Type}
noncomputable def no : M α := (.stuck, [])
noncomputable def up (x : Out α) : M α := (x, [])
noncomputable def mb (x : M α) (f : α -> M β) : M β := match x.1 with
  | .ok a => ((f a).1, x.2 ++ (f a).2)
  | .err p => (.err p, x.2)
  | .stuck => no
noncomputable def mn (x : M α) (f : α -> M β) : M β := match x.1 with
  | .ok a => ((f a).1, x.2 ++ (f a).2)
  | _ => no
noncomputable def ask (m : M α) (a : Out α) : M α := (a, m.2 ++ [m.1 = a])
noncomputable def Sd (m : M α) (x : Out α) : Prop := allP m.2 -> m.1 ≠ .stuck -> x = m.1
theorem okS {a : α} : (Out.ok a) ≠ .stuck := fun e => nomatch e
theorem erS {p : PV} : (Out.err p : Out α) ≠ .stuck := fun e => nomatch e
theorem sd_no {x : Out α} : Sd no x := fun _ h => (h rfl).elim
theorem sd_up {x : Out α} : Sd (up x) x := fun _ _ => rfl
theorem sd_b {m : M α} {x : Out α} {f : α -> M β} {g : α -> Out β} (h : Sd m x) (k : ∀ a, Sd (f a) (g a)) : Sd (mb m f) (x.bind g) := by
  obtain ⟨o, c⟩ := m
  induction o using Out.casesOn with
  | ok a => exact fun hc hn => (congrArg (·.bind g) (h (allP_app hc).1 okS)).trans (k a (allP_app hc).2 hn)
  | err p => exact fun hc hn => congrArg (·.bind g) (h hc erS)
  | stuck => exact sd_no
theorem sd_n {m : M α} {x : Out α} {f : α -> M β} {z : Out β} (h : Sd m x) (k : ∀ a, x = .ok a -> Sd (f a) z) : Sd (mn m f) z := by
  obtain ⟨o, c⟩ := m
  induction o using Out.casesOn with
  | ok a => exact fun hc hn => k a (h (allP_app hc).1 okS) (allP_app hc).2 hn
  | err p => exact sd_no
  | stuck => exact sd_no
theorem sd_ask {m : M α} {x a : Out α} (h : Sd m x) : Sd (ask m a) x := fun hc hn => by
  have q := allP_app hc
  have e : m.1 = a := q.2.1
  exact (h q.1 (e ▸ hn)).trans e
theorem sd_ite {p : Prop} [Decidable p] {m : M α} {x : Out α} (h : Sd m x) : Sd (if p then m else no) (if p then x else .stuck) := by
  by_cases q : p
  · rw [if_pos q, if_pos q]; exact h
  · rw [if_neg q]; exact sd_no
theorem sd_itn {p : Prop} [Decidable p] {m : M α} {x : Out α} (h : Sd m x) : Sd (if p then no else m) (if p then .stuck else x) := by
  by_cases q : p
  · rw [if_pos q]; exact sd_no
  · rw [if_neg q, if_neg q]; exact h
theorem sd_two {c : Bool} {a b : M α} {x y : Out α} (h : Sd a x) (k : Sd b y) : Sd (if c then a else b) (if c then x else y) := by
  cases c
  · exact k
  · exact h
noncomputable def mSome {γ : Type} (o : Option γ) (f : γ -> M β) : M β := match o with
  | some a => f a
  | none => no
theorem sd_some {γ : Type} {o : Option γ} {f : γ -> M β} {g : γ -> Out β} (h : ∀ a, Sd (f a) (g a)) : Sd (mSome o f) (onSome o g) := by
  induction o using Option.casesOn with
  | none => exact sd_no
  | some a => exact h a
noncomputable def mNil {γ : Type} (l : List γ) (x : M β) : M β := match l with
  | [] => x
  | _ :: _ => no
theorem sd_nil {γ : Type} {l : List γ} {m : M β} {x : Out β} (h : Sd m x) : Sd (mNil l m) (onNil l x) := by
  induction l using List.casesOn with
  | nil => exact h
  | cons _ _ => exact sd_no
noncomputable def mOnly {γ : Type} (l : List γ) (f : γ -> M β) : M β := match l with
  | [] => no
  | a :: r => mNil r (f a)
theorem sd_only {γ : Type} {l : List γ} {f : γ -> M β} {g : γ -> Out β} (h : ∀ a, Sd (f a) (g a)) : Sd (mOnly l f) (only l g) := by
  induction l using List.casesOn with
  | nil => exact sd_no
  | cons a r => induction r using List.casesOn with
    | nil => exact h a
    | cons _ _ => exact sd_no
noncomputable def mTrue (b : Bool) (x : M β) : M β := match b with
  | true => x
  | false => no
theorem sd_true {b : Bool} {m : M β} {x : Out β} (h : Sd m x) : Sd (mTrue b m) (onTrue b x) := by
  cases b
  · exact sd_no
  · exact h
theorem sd_at {m : M α} {x y : Out α} (h : Sd m x) (e : y = x) : Sd m y := e ▸ h
end
abbrev PM := (Scope -> Vars -> Expr -> M PV) × (Scope -> Vars -> Expr -> M Bool) × (Scope -> Vars -> List Stmt -> M Res)
abbrev Ora := List (Nat × (Vars -> Out PV))
noncomputable def key (p : Pos) : Nat := (((p.line * 1000 + p.col) * 1000 + p.endLine) * 1000 + p.endCol) * 2
noncomputable def andO (op : BoolOp) (a b : Bool) : Bool := match op with
  | .And => a && b
  | .Or => a || b
noncomputable def andV (op : BoolOp) (v w : PV) : Out PV := match v with
  | .bool a => (match w with
    | .bool b => .ok (.bool (andO op a b))
    | _ => .stuck)
  | _ => .stuck
noncomputable def selV (c : Bool) (x y : PV) : Out PV := match x with
  | .int i => (match y with
    | .int j => .ok (.int (if c = true then i else j))
    | _ => .stuck)
  | .bool i => (match y with
    | .bool j => .ok (.bool (if c = true then i else j))
    | _ => .stuck)
  | .str i => (match y with
    | .str j => .ok (.str (if c = true then i else j))
    | _ => .stuck)
  | _ => .stuck
theorem selV_ok {c : Bool} {x y : PV} (h : selV c x y ≠ .stuck) : selV c x y = .ok (if c then x else y) := by
  have q : selV c x y = .stuck -> selV c x y = .ok (if c then x else y) := fun e => (h e).elim
  clear h
  induction x using PV.casesOn with
  | int i => induction y using PV.casesOn with
    | int j => cases c <;> rfl
    | _ => exact q rfl
  | bool i => induction y using PV.casesOn with
    | bool j => cases c <;> rfl
    | _ => exact q rfl
  | str i => induction y using PV.casesOn with
    | str j => cases c <;> rfl
    | _ => exact q rfl
  | _ => exact q rfl
theorem andV_ok {op : BoolOp} {v w : PV} (h : andV op v w ≠ .stuck) : ∃ a b, v = .bool a /\ w = .bool b := by
  induction v using PV.casesOn with
  | bool a => induction w using PV.casesOn with
    | bool b => exact ⟨a, b, rfl, rfl⟩
    | _ => exact (h rfl).elim
  | _ => exact (h rfl).elim
section
variable (O : Ora) (G : Gl) (P : PM) (sc : Scope) (σ : Vars)
noncomputable def mList (l : List Expr) : M (List PV) := l.rec (up (.ok [])) fun e _ ih => if isStar e = true then no else mb (P.1 sc σ e) fun v => mb ih fun vs => up (.ok (v :: vs))
noncomputable def mBool (op : BoolOp) (l : List Expr) : M PV := l.rec no fun e r ih => match r with
  | [] => P.1 sc σ e
  | _ :: _ => mn (P.1 sc σ e) fun v => mn ih fun w => up (andV op v w)
noncomputable def mTs (op : BoolOp) (l : List Expr) : M Bool := l.rec no fun e r ih => match r with
  | [] => P.2.1 sc σ e
  | _ :: _ => mn (P.2.1 sc σ e) fun v => mn ih fun w => up (.ok (andO op v w))
noncomputable def mCmp (l : Expr) (ops : List CmpOp) (rs : List Expr) : M PV := match ops with
  | [] => no
  | op :: ops => (match rs with
    | [] => no
    | r :: rs => (match ops with
      | [] => mNil rs (if behindInMarks op r = true then no else mb (P.1 sc σ l) fun a => mb (P.1 sc σ r) fun b => up (cmpop op a b))
      | op2 :: ops => mNil ops (mOnly rs fun r2 => if behindInMarks op2 r2 = true then no else mn (P.1 sc σ l) fun a => mn (P.1 sc σ r) fun b => mn (P.1 sc σ r2) fun d => mn (up (cmpop op a b)) fun x => mn (up (cmpop op2 b d)) fun y => up (andV .And x y))))
noncomputable def mIf (t b o : Expr) : M PV := match List.lookup (key t.pos) O with
  | some _ => mb (P.2.1 sc σ t) fun c => if c then P.1 sc σ b else P.1 sc σ o
  | none => mn (P.2.1 sc σ t) fun c => mn (P.1 sc σ b) fun x => mn (P.1 sc σ o) fun y => up (selV c x y)
noncomputable def mRange (fn : Expr) (args : List Expr) (kws : List Keyword) : M (List PV) := mSome (vName fn) fun f => mNil kws (mOnly args fun a =>
  if f == "range" /\ topName sc σ f /\ isStar a = false then mb (P.1 sc σ a) fun v => up (rangeP v) else no)
noncomputable def lstO (o : Out PV) : Out (List PV) := match o with
  | .ok v => (match v with
    | .list l => .ok l
    | _ => .stuck)
  | _ => .stuck
noncomputable def mIter (e : Expr) : M (List PV) := match vCall e with
  | some q => mRange P sc σ q.1 q.2.1 q.2.2.1
  | none => mb (P.1 sc σ e) fun v => (match List.lookup (key e.pos + 1) O with
    | some f => ask (up (listP v)) (lstO (f σ))
    | none => up (listP v))
noncomputable def mMap (f : PV -> M (Option PV)) (l : List PV) : M (List PV) := l.rec (up (.ok [])) fun v _ ih => mn (f v) fun x => mb ih fun xs => up (.ok (match x with | some y => y :: xs | none => xs))
noncomputable def mEl (x : Str) (ifs : List Expr) (elt : Expr) (v : PV) : M (Option PV) := match ifs with
  | [] => mb (P.1 sc ((x, v) :: σ) elt) fun y => up (.ok (some y))
  | c :: r => (match r with
    | [] => mn (P.2.1 sc ((x, v) :: σ) c) fun t => mn (P.1 sc ((x, v) :: σ) elt) fun y => up (.ok (if t then some y else none))
    | _ :: _ => no)
noncomputable def optOf (o : Out PV) : Option PV := match o with
  | .ok v => some v
  | _ => none
noncomputable def mOver (f : PV -> M (Option PV)) (g : PV -> Option PV) (items : List PV) : M PV := (.ok (.list (items.filterMap g)), [∀ v ∈ items, allP (f v).2 /\ (f v).1 = .ok (g v)])
noncomputable def mComp (elt : Expr) (gens : List Comprehension) (sc' : Scope) (p : Pos) : M PV := mOnly gens fun g => mSome (vName g.target) fun x =>
  if (g.is_async == 0 && compOK sc σ sc' x g.iter) = true then mb (mIter O P sc σ g.iter) fun items => (match List.lookup (key p + 1) O with
    | some f => mOver (mEl P sc' (freeVars sc' σ) x g.ifs elt) (fun v => optOf (f ((x, v) :: freeVars sc' σ))) items
    | none => mb (mMap (mEl P sc' (freeVars sc' σ) x g.ifs elt) items) fun vs => up (.ok (.list vs))) else no
noncomputable def mHeard (args : List Expr) : M PV := mOnly args fun e => mSome (vLam e) fun q => mTrue (bareA q.1 && lamOK sc σ q.2.2) (heardOut (P.1 q.2.2 (freeVars q.2.2 σ) q.2.1).1, (P.1 q.2.2 (freeVars q.2.2 σ) q.2.1).2)
noncomputable def mMeth (o : Expr) (name : Str) (args : List Expr) : M PV := match args with
  | [] => mb (P.1 sc σ o) fun v => up (methP v name [])
  | e :: r => mNil r (if isStar e = true then no else mb (P.1 sc σ o) fun v => if isIdx v name = true then mb (P.1 sc σ e) fun u => up (methP v name [u]) else no)
noncomputable def mCall (fn : Expr) (args : List Expr) (kws : List Keyword) (pos : Pos) : M PV := mNil kws (match vName fn with
  | some f => if (topName sc σ f && !args.any isStar) = true then (if (f == "_law_heard") = true then mHeard P sc σ args else mSome (G.D f) fun F => mb (mList P sc σ args) fun vs => up (F vs)) else no
  | none => mSome (vAtt fn) fun q => if (isNull q.1 || !(q.2.2.endLine == pos.line)) = true then no else mMeth P sc σ q.1 q.2.1 args)
noncomputable def mOpt (e : Option Expr) : M PV := match e with
  | none => up (.ok .none)
  | some e => P.1 sc σ e
noncomputable def mSub (o sl : Expr) : M PV := match sl with
  | .Slice lo hi st _ => (match st with
    | none => mb (P.1 sc σ o) fun v => mb (mOpt P sc σ lo) fun l => mb (mOpt P sc σ hi) fun h => up (sliceP v l h)
    | some _ => no)
  | i => mb (P.1 sc σ o) fun v => mb (P.1 sc σ i) fun k => up (itemP v k)
noncomputable def mE (e : Expr) : M PV := match e with
  | .Constant c _ _ => up (constP c)
  | .Name x _ => up (if x == "__debug__" then .stuck else varP G sc σ x)
  | .BinOp l op r _ => mb (P.1 sc σ l) fun a => mb (P.1 sc σ r) fun b => up (binop op a b)
  | .UnaryOp op x _ => mb (P.1 sc σ x) fun a => up (unop op a)
  | .BoolOp op vs _ => mBool P sc σ op vs
  | .Compare l ops rs _ => mCmp P sc σ l ops rs
  | .IfExp t b o _ => mIf O P sc σ t b o
  | .List es _ => mb (mList P sc σ es) fun vs => up (if vs.length <= 1000 then .ok (.list vs) else .stuck)
  | .Tuple es _ _ => mb (mList P sc σ es) fun vs => up (if vs.length <= 1000 then .ok (.tuple vs) else .stuck)
  | .Call fn args kws pos => mCall G P sc σ fn args kws pos
  | .Attribute o name _ => if isNull o = true then no else mb (P.1 sc σ o) fun v => up (attrP v name)
  | .Subscript o sl _ => mSub P sc σ o sl
  | .ListComp elt gens sc' p => mComp O P sc σ elt gens sc' p
  | _ => no
noncomputable def mEO (e : Expr) : M PV := match List.lookup (key e.pos) O with
  | some f => ask (mE O G P sc σ e) (f σ)
  | none => mE O G P sc σ e
noncomputable def bO (o : Out PV) : Out Bool := match o with
  | .ok v => truthyP v
  | _ => .stuck
noncomputable def mTx (op : BoolOp) (l : List Expr) : M Bool := l.rec (up (.ok (op == .And))) fun e _ ih => mb (P.2.1 sc σ e) fun t => boK op t (up (.ok (op == .Or))) ih
noncomputable def oT (op : BoolOp) (vs : List Expr) (p : Pos) : M Bool := match List.lookup (key p + 1) O with
  | some _ => mTx P sc σ op vs
  | none => (match List.lookup (key p) O with
    | some f => ask (mTs P sc σ op vs) (bO (f σ))
    | none => mTs P sc σ op vs)
noncomputable def mT (e : Expr) : M Bool := match e with
  | .UnaryOp op x p => (match op with
    | .Not => mb (P.2.1 sc σ x) fun b => up (.ok (!b))
    | _ => mb (mEO O G P sc σ (.UnaryOp op x p)) fun v => up (truthyP v))
  | .BoolOp op vs p => oT O P sc σ op vs p
  | .IfExp t b o _ => mn (P.2.1 sc σ t) fun c => mn (P.2.1 sc σ b) fun x => mn (P.2.1 sc σ o) fun y => up (.ok (if c then x else y))
  | e => mb (mEO O G P sc σ e) fun v => up (truthyP v)
noncomputable def mAsgE (e : Expr) : M PV := if isComp e = true then mSome (vLC e) fun q => mComp O P sc σ q.1 q.2.1 q.2.2 e.pos else P.1 sc σ e
noncomputable def tupTo (xs : List Str) (v : PV) : Out Res := match v with
  | .tuple vs => if xs.length = vs.length then .ok (.next ((xs.zip vs).reverse ++ σ)) else .stuck
  | _ => .stuck
noncomputable def mAsg (t e : Expr) : M Res := match vName t with
  | some x => if isStored sc x = true then mb (mAsgE O P sc σ e) fun v => up (.ok (.next ((x, v) :: σ))) else no
  | none => mSome (vTup t) fun ts => mSome (namesOf ts) fun xs => if tupOK sc xs e = true then mb (P.1 sc σ e) fun v => up (tupTo σ xs v) else no
noncomputable def mThen (k : Vars -> M Res) (q : Res) : M Res := match q with
  | .next σ' => k σ'
  | .ret v => up (.ok (.ret v))
noncomputable def mLoop (body : Vars -> M Res) (t : Expr) (l : List PV) : Vars -> M Res := l.rec (fun σ => up (.ok (.next σ))) fun v _ ih σ => match bindT sc t v σ with
  | none => no
  | some σ1 => mb (body σ1) fun q => mThen (fun σ => ih (dd σ)) q
noncomputable def mRaise (e c : Option Expr) : M Res := mSome e fun e => mTrue c.isNone (mSome (vCall e) fun q => mSome (vName q.1) fun f => mNil q.2.2.1
  (if (topName sc σ f && !q.2.1.any isStar && f == "CodeError") = true then mb (mList P sc σ q.2.1) fun vs => up (excP vs) else no))
noncomputable def mS (s : Stmt) : M Res := match s with
  | .Expr e _ => if isComp e = true then no else mb (P.1 sc σ e) fun _ => up (.ok (.next σ))
  | .Assign ts e _ => (match ts with
    | [] => no
    | t :: r => (match r with
      | [] => mAsg O P sc σ t e
      | _ :: _ => no))
  | .If t b o _ => mb (P.2.1 sc σ t) fun c => if c then P.2.2 sc σ b else P.2.2 sc σ o
  | .Return e _ => (match e with
    | some e => mb (P.1 sc σ e) fun v => up (.ok (.ret v))
    | none => up (.ok (.ret .none)))
  | .For t iter body els _ => (match els with
    | [] => if isTupT t = true then no else if isSetE iter = true then no else mb (mIter O P sc σ iter) fun items => mLoop sc (fun σ' => P.2.2 sc σ' body) t items σ
    | _ :: _ => no)
  | .Raise e c _ => mRaise P sc σ e c
  | _ => no
noncomputable def mBl (l : List Stmt) : Vars -> M Res := l.rec (fun σ => up (.ok (.next σ))) fun s _ ih σ => mb (mS O P sc σ s) fun q => mThen ih q
end
noncomputable def runM (O : Ora) (G : Gl) (n : Nat) : PM := n.rec (fun _ _ _ => no, fun _ _ _ => no, fun _ _ _ => no) fun n P => (mEO O G P, mT O G P, fun sc σ b => mBl O P sc b σ)
noncomputable def PK (P : PM) (J : I) : Prop := (∀ sc σ e, Sd (P.1 sc σ e) (J.e sc σ e)) /\ (∀ sc σ e, Sd (P.2.1 sc σ e) (J.t sc σ e)) /\ (∀ sc σ b, Sd (P.2.2 sc σ b) (J.b sc σ b))
section
variable {O : Ora} {G : Gl} {J : I} {P : PM} {sc : Scope} {σ : Vars}
theorem pk_e (h : PK P J) {sc : Scope} {σ : Vars} {e : Expr} : Sd (P.1 sc σ e) (J.e sc σ e) := h.1 _ _ _
theorem pk_t (h : PK P J) {sc : Scope} {σ : Vars} {e : Expr} : Sd (P.2.1 sc σ e) (J.t sc σ e) := h.2.1 _ _ _
theorem pk_b (h : PK P J) {sc : Scope} {σ : Vars} {b : List Stmt} : Sd (P.2.2 sc σ b) (J.b sc σ b) := h.2.2 _ _ _
theorem mList_ok (h : PK P J) (l : List Expr) : Sd (mList P sc σ l) (evList J sc σ l) := by
  induction l with
  | nil => exact sd_up
  | cons e r ih => exact sd_itn (sd_b (pk_e h) fun _ => sd_b ih fun _ => sd_up)
theorem if_step {X Y Z : Out Bool} {c x y : Bool} (hc : X = .ok c) (hx : Y = .ok x) (hy : Z = .ok y) : X.bind (fun c => if c then Y else Z) = .ok (if c then x else y) := by
  subst hc; subst hx; subst hy
  cases c <;> rfl
theorem sel_step {X : Out Bool} {Y Z : Out PV} {c : Bool} {x y : PV} (hc : X = .ok c) (hx : Y = .ok x) (hy : Z = .ok y) : Sd (up (selV c x y)) (X.bind fun c => if c then Y else Z) := fun _ hn => by
  subst hc; subst hx; subst hy
  refine (?_ : _ = _).trans (selV_ok hn).symm
  cases c <;> rfl
theorem bo_step {X Y : Out PV} {v w : PV} {op : BoolOp} (hx : X = .ok v) (hy : Y = .ok w) : Sd (up (andV op v w)) (X.bind fun v => (truthyP v).bind fun t => boK op t (.ok v) Y) := fun _ hn => by
  obtain ⟨a, b, rfl, rfl⟩ := andV_ok hn
  subst hx; subst hy
  cases op <;> cases a <;> rfl
theorem mBool_ok (h : PK P J) (op : BoolOp) (l : List Expr) : Sd (mBool P sc σ op l) (evBool J sc σ op l) := by
  induction l with
  | nil => exact sd_no
  | cons e r ih => induction r using List.casesOn with
    | nil => exact pk_e h
    | cons e2 r => exact sd_n (pk_e h) fun v hv => sd_n ih fun w hw => bo_step hv hw
theorem mTs_ok (h : PK P J) (op : BoolOp) (l : List Expr) : Sd (mTs P sc σ op l) (tsBool J sc σ op l) := by
  induction l with
  | nil => exact sd_no
  | cons e r ih => induction r using List.casesOn with
    | nil =>
      refine sd_at (pk_t h) ?_
      show (J.t sc σ e).bind _ = J.t sc σ e
      induction J.t sc σ e using Out.casesOn with
      | ok a => cases op <;> cases a <;> rfl
      | err p => rfl
      | stuck => rfl
    | cons e2 r =>
      refine sd_n (pk_t h) fun v hv => sd_n ih fun w hw => fun _ _ => ?_
      rw [ts_cons, hv, bd_ok]
      cases op <;> cases v <;> first | rfl | exact hw
theorem cmp_step {X Y Z : Out PV} {a b d x y : PV} {op op2 : CmpOp} (ha : X = .ok a) (hb : Y = .ok b) (hd : Z = .ok d) (hx : cmpop op a b = .ok x) (hy : cmpop op2 b d = .ok y) : Sd (up (andV .And x y)) (X.bind fun a => Y.bind fun b => (cmpop op a b).bind fun c => (truthyP c).bind fun t =>
      if t then Z.bind fun d => cmpop op2 b d else .ok c) := fun _ hn => by
  obtain ⟨p, q, rfl, rfl⟩ := andV_ok hn
  subst ha; subst hb; subst hd
  rw [bd_ok, bd_ok, hx, bd_ok, p_bool, bd_ok]
  cases p
  · rfl
  · exact hy
theorem mCmp_ok (h : PK P J) (l : Expr) (ops : List CmpOp) (rs : List Expr) : Sd (mCmp P sc σ l ops rs) (cmpP J sc σ l ops rs) := by
  induction ops using List.casesOn with
  | nil => exact sd_no
  | cons op ops => induction rs using List.casesOn with
    | nil => exact sd_no
    | cons r rs => induction ops using List.casesOn with
      | nil => exact sd_nil (sd_itn (sd_b (pk_e h) fun _ => sd_b (pk_e h) fun _ => sd_up))
      | cons op2 ops => exact sd_nil (sd_only fun r2 => sd_itn (sd_n (pk_e h) fun a ha => sd_n (pk_e h) fun b hb => sd_n (pk_e h) fun d hd => sd_n sd_up fun x hx => sd_n sd_up fun y hy => cmp_step ha hb hd hx hy))
theorem mIf_ok (h : PK P J) (t b o : Expr) : Sd (mIf O P sc σ t b o) ((J.t sc σ t).bind fun c => if c then J.e sc σ b else J.e sc σ o) := by
  unfold mIf
  induction List.lookup (key t.pos) O using Option.casesOn with
  | some f => exact sd_b (pk_t h) fun c => sd_two (pk_e h) (pk_e h)
  | none => exact sd_n (pk_t h) fun c hc => sd_n (pk_e h) fun x hx => sd_n (pk_e h) fun y hy => sel_step hc hx hy
theorem mRange_ok (h : PK P J) (fn : Expr) (args : List Expr) (kws : List Keyword) : Sd (mRange P sc σ fn args kws) (rangeCallP J sc σ fn args kws) := sd_some fun _ => sd_nil (sd_only fun _ => sd_ite (sd_b (pk_e h) fun _ => sd_up))
theorem mIter_ok (h : PK P J) (e : Expr) : Sd (mIter O P sc σ e) (iterP J sc σ e) := by
  unfold mIter iterP
  cases vCall e with
  | none =>
    refine sd_b (pk_e h) fun v => ?_
    cases List.lookup _ O with
    | some f => exact sd_ask sd_up
    | none => exact sd_up
  | some q => exact mRange_ok h _ _ _
theorem mMap_ok {f : PV -> M (Option PV)} {g : PV -> Out (Option PV)} (h : ∀ v, Sd (f v) (g v)) (l : List PV) : Sd (mMap f l) (mapOut g l) := by
  induction l with
  | nil => exact sd_up
  | cons v r ih =>
    refine sd_n (h v) fun x hx => ?_
    refine sd_at (sd_b ih fun _ => sd_up) ?_
    show (noErr (g v)).bind _ = _
    rw [hx]; rfl
theorem el_step {X : Out Bool} {Y : Out PV} {t : Bool} {y : PV} (hx : X = .ok t) (hy : Y = .ok y) : X.bind (fun t => if t then Y.bind fun y => .ok (some y) else .ok none) = .ok (if t then some y else none) := by
  subst hx; subst hy
  cases t <;> rfl
theorem mEl_ok (h : PK P J) (x : Str) (ifs : List Expr) (elt : Expr) (v : PV) : Sd (mEl P sc σ x ifs elt v) (compEl J sc σ x ifs elt v) := by
  induction ifs using List.casesOn with
  | nil => exact sd_b (pk_e h) fun _ => sd_up
  | cons c r => induction r using List.casesOn with
    | nil => exact sd_n (pk_t h) fun t ht => sd_n (pk_e h) fun y hy => fun _ _ => el_step ht hy
    | cons _ _ => exact sd_no
theorem mo_keep {f : PV -> Out (Option PV)} {g : PV -> Option PV} (l : List PV) : (∀ v ∈ l, f v = .ok (g v)) -> mapOut f l = .ok (l.filterMap g) := by
  induction l with
  | nil => exact fun _ => rfl
  | cons v r ih =>
    intro h
    show (noErr (f v)).bind (fun x => (mapOut f r).bind fun xs => .ok (match x with | some y => y :: xs | none => xs)) = _
    rw [h v (.head _), ih fun u hu => h u (.tail _ hu), List.filterMap_cons]
    cases g v <;> rfl
theorem mOver_ok {f : PV -> M (Option PV)} {f' : PV -> Out (Option PV)} (h : ∀ v, Sd (f v) (f' v)) (g : PV -> Option PV) (items : List PV) : Sd (mOver f g items) ((mapOut f' items).bind fun vs => .ok (.list vs)) := fun hc _ => by
  rw [mo_keep items fun v hv => (h v (hc.1 v hv).1 ((hc.1 v hv).2 ▸ okS)).trans (hc.1 v hv).2]; rfl
theorem mComp_ok (h : PK P J) (elt : Expr) (gens : List Comprehension) (sc' : Scope) (p : Pos) : Sd (mComp O P sc σ elt gens sc' p) (listCompP J sc σ elt gens sc') :=
  sd_only fun g => sd_some fun x => sd_ite (sd_b (mIter_ok h _) fun items => by
    cases List.lookup _ O with
    | some f => exact mOver_ok (fun v => mEl_ok h x _ elt v) _ _
    | none => exact sd_b (mMap_ok (fun v => mEl_ok h x _ elt v) _) fun _ => sd_up)
theorem sd_heard {m : M PV} {x : Out PV} (h : Sd m x) : Sd (heardOut m.1, m.2) (heardOut x) := by
  obtain ⟨o, c⟩ := m
  induction o using Out.casesOn with
  | ok a => exact fun hc _ => congrArg heardOut (h hc okS)
  | err a => exact fun hc _ => congrArg heardOut (h hc erS)
  | stuck => exact fun _ hn => (hn rfl).elim
theorem mHeard_ok (h : PK P J) (args : List Expr) : Sd (mHeard P sc σ args) (heardP J sc σ args) := sd_only fun _ => sd_some fun _ => sd_true (sd_heard (pk_e h))
theorem mMeth_ok (h : PK P J) (o : Expr) (name : Str) (args : List Expr) : Sd (mMeth P sc σ o name args) (methCallP J sc σ o name args) := by
  induction args using List.casesOn with
  | nil => exact sd_b (pk_e h) fun _ => sd_up
  | cons e r => exact sd_nil (sd_itn (sd_b (pk_e h) fun _ => sd_ite (sd_b (pk_e h) fun _ => sd_up)))
theorem mCall_ok (h : PK P J) (fn : Expr) (args : List Expr) (kws : List Keyword) (p : Pos) : Sd (mCall G P sc σ fn args kws p) (callP G J sc σ fn args kws p) := by
  refine sd_nil ?_
  cases vName fn with
  | some f => exact sd_ite (sd_two (mHeard_ok h _) (sd_some fun _ => sd_b (mList_ok h _) fun _ => sd_up))
  | none => exact sd_some fun _ => sd_itn (mMeth_ok h _ _ _)
theorem mOpt_ok (h : PK P J) (e : Option Expr) : Sd (mOpt P sc σ e) (evOpt J sc σ e) := by
  induction e using Option.casesOn with
  | none => exact sd_up
  | some e => exact pk_e h
theorem mSub_ok (h : PK P J) (o sl : Expr) : Sd (mSub P sc σ o sl) (subP J sc σ o sl) := by
  have q : Sd (mb (P.1 sc σ o) fun v => mb (P.1 sc σ sl) fun k => up (itemP v k)) ((J.e sc σ o).bind fun v => (J.e sc σ sl).bind fun k => itemP v k) := sd_b (pk_e h) fun _ => sd_b (pk_e h) fun _ => sd_up
  induction sl using PySem.Expr.casesOn with
  | Slice lo hi st p => induction st using Option.casesOn with
    | none => exact sd_b (pk_e h) fun _ => sd_b (mOpt_ok h _) fun _ => sd_b (mOpt_ok h _) fun _ => sd_up
    | some _ => exact sd_no
  | _ => exact q
theorem mE_ok (h : PK P J) (e : Expr) : Sd (mE O G P sc σ e) (evE G J sc σ e) := by
  have q : Sd no (evE G J sc σ e) := sd_no
  induction e using PySem.Expr.casesOn with
  | Constant c _ _ => exact sd_up
  | Name x _ => exact sd_up
  | BinOp l op r _ => exact sd_b (pk_e h) fun _ => sd_b (pk_e h) fun _ => sd_up
  | UnaryOp op x _ => exact sd_b (pk_e h) fun _ => sd_up
  | BoolOp op vs _ => exact mBool_ok h _ _
  | Compare l ops rs _ => exact mCmp_ok h _ _ _
  | IfExp t b o _ => exact mIf_ok h _ _ _
  | List es _ => exact sd_b (mList_ok h _) fun _ => sd_up
  | Tuple es _ _ => exact sd_b (mList_ok h _) fun _ => sd_up
  | Call fn args kws pos => exact mCall_ok h _ _ _ _
  | Attribute o name _ => exact sd_itn (sd_b (pk_e h) fun _ => sd_up)
  | Subscript o sl _ => exact mSub_ok h _ _
  | ListComp elt gens sc' p => exact mComp_ok h _ _ _ _
  | _ => exact q
theorem mEO_ok (h : PK P J) (e : Expr) : Sd (mEO O G P sc σ e) (evE G J sc σ e) := by
  unfold mEO
  induction List.lookup (key e.pos) O using Option.casesOn with
  | some f => exact sd_ask (mE_ok h e)
  | none => exact mE_ok h e
theorem mTx_ok (h : PK P J) (op : BoolOp) (l : List Expr) : Sd (mTx P sc σ op l) (tsBool J sc σ op l) := by
  induction l with
  | nil => exact sd_up
  | cons e r ih =>
    refine sd_b (pk_t h) fun t => ?_
    cases op <;> cases t
    · exact sd_up
    · exact ih
    · exact ih
    · exact sd_up
theorem oT_ok (h : PK P J) {op : BoolOp} {vs : List Expr} {p : Pos} : Sd (oT O P sc σ op vs p) (tsBool J sc σ op vs) := by
  unfold oT
  cases List.lookup (key p + 1) O with
  | some f => exact mTx_ok h op vs
  | none => cases List.lookup (key p) O with
    | some f => exact sd_ask (mTs_ok h _ _)
    | none => exact mTs_ok h _ _
theorem mT_ok (h : PK P J) (e : Expr) : Sd (mT O G P sc σ e) (evT G J sc σ e) := by
  have q : Sd (mb (mEO O G P sc σ e) fun v => up (truthyP v)) ((evE G J sc σ e).bind truthyP) := sd_b (mEO_ok h _) fun _ => sd_up
  induction e using PySem.Expr.casesOn with
  | UnaryOp op x p => induction op using PySem.UnaryOp.casesOn with
    | Not => exact sd_b (pk_t h) fun _ => sd_up
    | _ => exact q
  | BoolOp op vs _ => exact oT_ok h
  | IfExp t b o _ => exact sd_n (pk_t h) fun c hc => sd_n (pk_t h) fun x hx => sd_n (pk_t h) fun y hy => fun _ _ => if_step hc hx hy
  | _ => exact q
theorem mAsgE_ok (h : PK P J) (e : Expr) : Sd (mAsgE O P sc σ e) (asgE J sc σ e) := sd_two (sd_some fun _ => mComp_ok h _ _ _ _) (pk_e h)
theorem mAsg_ok (h : PK P J) (t e : Expr) : Sd (mAsg O P sc σ t e) (asgP J sc σ t e) := by
  unfold mAsg asgP
  cases vName t with
  | some x => exact sd_ite (sd_b (mAsgE_ok h _) fun _ => sd_up)
  | none => exact sd_some fun _ => sd_some fun _ => sd_ite (sd_b (pk_e h) fun v => sd_up)
theorem then_ok {k : Vars -> M Res} {g : Vars -> Out Res} (h : ∀ σ, Sd (k σ) (g σ)) (q : Res) : Sd (mThen k q) (match q with
    | .next σ' => g σ'
    | .ret v => .ok (.ret v)) := by
  induction q using Res.casesOn with
  | next σ' => exact h σ'
  | ret v => exact sd_up
theorem mLoop_ok {bm : Vars -> M Res} {body : Vars -> Out Res} (h : ∀ σ, Sd (bm σ) (body σ)) (t : Expr) (l : List PV) : ∀ σ, Sd (mLoop sc bm t l σ) (loopP body sc t l σ) := by
  induction l with
  | nil => exact fun _ => sd_up
  | cons v r ih =>
    intro σ
    show Sd (match bindT sc t v σ with
      | none => no
      | some σ1 => mb (bm σ1) fun q => mThen (fun σ => mLoop sc bm t r (dd σ)) q) (match bindT sc t v σ with
      | none => .stuck
      | some σ1 => (body σ1).bind fun q => match q with
        | .next σ' => loopP body sc t r (dd σ')
        | .ret v => .ok (.ret v))
    induction bindT sc t v σ using Option.casesOn with
    | none => exact sd_no
    | some σ1 => exact sd_b (h σ1) fun q => then_ok (fun σ => ih (dd σ)) q
theorem mRaise_ok (h : PK P J) (e c : Option Expr) : Sd (mRaise P sc σ e c) (raiseP J sc σ e c) := sd_some fun _ => sd_true (sd_some fun _ => sd_some fun _ => sd_nil (sd_ite (sd_b (mList_ok h _) fun _ => sd_up)))
theorem mS_ok (h : PK P J) (s : Stmt) : Sd (mS O P sc σ s) (exS J sc σ s) := by
  have q : Sd no (exS J sc σ s) := sd_no
  induction s using PySem.Stmt.casesOn with
  | Expr e _ => exact sd_itn (sd_b (pk_e h) fun _ => sd_up)
  | Assign ts e _ => induction ts using List.casesOn with
    | nil => exact sd_no
    | cons t r => induction r using List.casesOn with
      | nil => exact mAsg_ok h _ _
      | cons _ _ => exact sd_no
  | If t b o _ => exact sd_b (pk_t h) fun c => sd_two (pk_b h) (pk_b h)
  | Return e _ => induction e using Option.casesOn with
    | some e => exact sd_b (pk_e h) fun _ => sd_up
    | none => exact sd_up
  | For t iter body els _ => induction els using List.casesOn with
    | nil =>
      show Sd (if isTupT t = true then no else _) (if isTupT t = true then _ else _)
      cases isTupT t
      · rw [if_neg Bool.false_ne_true, if_neg Bool.false_ne_true]
        exact sd_itn (sd_b (mIter_ok h iter) fun items => mLoop_ok (sc := sc) (fun σ' => pk_b h) t items σ)
      · exact sd_no
    | cons _ _ => exact sd_no
  | Raise e c _ => exact mRaise_ok h _ _
  | _ => exact q
theorem mBl_ok (h : PK P J) (l : List Stmt) : ∀ σ, Sd (mBl O P sc l σ) (exB J sc l σ) := by
  induction l with
  | nil => exact fun _ => sd_up
  | cons s r ih => exact fun σ => sd_b (mS_ok h s) fun q => then_ok ih q
theorem runM_ok (O : Ora) (G : Gl) (n : Nat) : PK (runM O G n) (run G n) := by
  induction n with
  | zero => exact ⟨fun _ _ _ => sd_no, fun _ _ _ => sd_no, fun _ _ _ => sd_no⟩
  | succ n ih => exact ⟨fun _ _ e => mEO_ok ih e, fun _ _ e => mT_ok ih e, fun _ σ b => mBl_ok ih b σ⟩
end
noncomputable def fnM (O : Ora) (G : Gl) (n : Nat) (sc : Scope) (ps : List Str) (body : List Stmt) (args : List PV) : M PV := mb ((runM O G n).2.2 sc (ps.zip args).reverse body) fun q => up (toRet q)
theorem fn_m {O : Ora} {G : Gl} {n : Nat} {sc : Scope} {ps : List Str} {body : List Stmt} {args : List PV} {o : Out PV} {cs : List Prop} (h : fnM O G n sc ps body args = (o, cs)) (hl : ps.length = args.length) (hn : o ≠ .stuck) (hc : allP cs) : fnP G n sc ps body args = o := by
  have q : Sd (fnM O G n sc ps body args) (((run G n).b sc (ps.zip args).reverse body).bind toRet) := sd_b ((runM_ok O G n).2.2 _ _ _) fun q => by
    cases q <;> exact sd_up
  rw [h] at q
  unfold fnP
  rw [if_pos hl]
  exact q hc hn
noncomputable def yes {α : Type} (v : α) : M α := up (.ok v)
section
variable {O : Ora} {G : Gl} {n : Nat} {sc : Scope} {σ : Vars}
theorem yes_e {e : Expr} {v : PV} (h : (runM O G n).1 sc σ e = yes v) : (run G n).e sc σ e = .ok v := by
  have q := (runM_ok O G n).1 sc σ e
  rw [h] at q
  exact q trivial okS
theorem yes_t {e : Expr} {v : Bool} (h : (runM O G n).2.1 sc σ e = yes v) : (run G n).t sc σ e = .ok v := by
  have q := (runM_ok O G n).2.1 sc σ e
  rw [h] at q
  exact q trivial okS
theorem ask_b {b : List Stmt} {r : Res} {cs : List Prop} (h : (runM O G (n + 1)).2.2 sc σ b = (.ok r, cs)) (hc : allP cs) : exB (run G n) sc b σ = .ok r := by
  have q : Sd ((runM O G (n + 1)).2.2 sc σ b) (exB (run G n) sc b σ) := (runM_ok O G (n + 1)).2.2 sc σ b
  rw [h] at q
  exact q hc okS
theorem ask_s {s : Stmt} {r : Res} {cs : List Prop} (h : mS O (runM O G n) sc σ s = (.ok r, cs)) (hc : allP cs) : exS (run G n) sc σ s = .ok r := by
  have q : Sd (mS O (runM O G n) sc σ s) (exS (run G n) sc σ s) := mS_ok (runM_ok O G n) s
  rw [h] at q
  exact q hc okS
theorem ask_e {e : Expr} {v : PV} {cs : List Prop} (h : (runM O G n).1 sc σ e = (.ok v, cs)) (hc : allP cs) : (run G n).e sc σ e = .ok v := by
  have q := (runM_ok O G n).1 sc σ e
  rw [h] at q
  exact q hc okS
end
noncomputable def needO (b : Bool) : Out PV := if b = true then .ok .none else .err .none
noncomputable def okO (v : PV) (b : Bool) : Out PV := if b = true then .ok v else .err .none
noncomputable def needR (b : Bool) (σ : Vars) : Out Res := if b = true then .ok (.next σ) else .err .none
noncomputable def stop (b : Bool) : Out Res := if b = true then .ok (.ret .none) else .err .none
noncomputable def stopR (c b : Bool) (σ : Vars) : Out Res := if c = true then stop b else .ok (.next σ)
noncomputable def iteB (c a b : Bool) : Bool := cond c a b
section
variable {G : Gl} {n : Nat} {sc : Scope} {σ σ' : Vars} {r : List Stmt} {s : Stmt} {a b c : Bool} {X : Out PV}
theorem needS {b : Bool} : needO b ≠ .stuck := by cases b <;> exact nofun
theorem yes_c {fn : Expr} {args : List Expr} {kws : List Keyword} {p : Pos} (h : mCall G (runM [] G n) sc σ fn args kws p = up (needO b)) : callP G (run G n) sc σ fn args kws p = needO b := by
  have q := mCall_ok (G := G) (sc := sc) (σ := σ) (runM_ok [] G n) fn args kws p
  rw [h] at q
  exact q trivial needS
theorem st_x {f : Str} {np cp p : Pos} {args : List Expr} (h : mCall G (runM [] G n) sc σ (.Name f np) args [] cp = up (needO b)) : exS (run G (n + 1)) sc σ (.Expr (.Call (.Name f np) args [] cp) p) = needR b σ := by
  rw [s_expr, if_neg (by exact Bool.false_ne_true), r_e, e_call, yes_c h]
  cases b <;> rfl
theorem st_x2 {f : Str} {np cp p : Pos} {args : List Expr} (h : mCall G (runM [] G n) sc σ (.Name f np) args [] cp = up X) (e : X = needO b) : exS (run G (n + 1)) sc σ (.Expr (.Call (.Name f np) args [] cp) p) = needR b σ := st_x (e ▸ h)
theorem st_ask {O : Ora} {cs : List Prop} {x : Str} {q p : Pos} {e : Expr} {v : PV} (h : (runM O G n).1 sc σ e = (.ok v, cs)) (hc : allP cs) (hs : isStored sc x = true) (hi : isComp e = false) : exS (run G n) sc σ (.Assign [.Name x q] e p) = .ok (.next ((x, v) :: σ)) := by
  rw [s_asg, a_name, if_pos hs]
  have : asgE (run G n) sc σ e = (run G n).e sc σ e := if_neg (by rw [hi]; exact Bool.false_ne_true)
  rw [this, ask_e h hc]; rfl
theorem st_as {x : Str} {q p : Pos} {e : Expr} {v : PV} (h : (runM [] G n).1 sc σ e = yes v) (hs : isStored sc x = true) (hc : isComp e = false) : exS (run G n) sc σ (.Assign [.Name x q] e p) = .ok (.next ((x, v) :: σ)) := st_ask h trivial hs hc
theorem st_if {t : Expr} {A B : List Stmt} {p : Pos} (h : (runM [] G n).2.1 sc σ t = yes c) (hA : (run G n).b sc σ A = needR a σ) (hB : (run G n).b sc σ B = needR b σ) : exS (run G n) sc σ (.If t A B p) = needR (iteB c a b) σ := by
  rw [s_if, yes_t h, bd_ok]
  cases c
  · rw [kI_f]; exact hB
  · rw [kI_t]; exact hA
theorem st_ifs {t : Expr} {A : List Stmt} {p : Pos} (h : (runM [] G (n + 1)).2.1 sc σ t = yes c) (hA : (run G (n + 1)).b sc σ A = stop a) : exS (run G (n + 1)) sc σ (.If t A [] p) = stopR c a σ := by
  rw [s_if, yes_t h, bd_ok]
  cases c
  · rfl
  · rw [kI_t]; exact hA
theorem bk_need {J : I} (h : exS J sc σ s = needR a σ) (k : exB J sc r σ = needR b σ) : exB J sc (s :: r) σ = needR (a && b) σ := by
  rw [b_cons, h]
  cases a
  · rfl
  · exact k
theorem bk_one {J : I} (h : exS J sc σ s = needR a σ) : exB J sc [s] σ = needR a σ := by
  rw [b_cons, h]
  cases a <;> rfl
theorem bk_stop {J : I} (h : exS J sc σ s = needR a σ) (k : exB J sc r σ = stop b) : exB J sc (s :: r) σ = stop (a && b) := by
  rw [b_cons, h]
  cases a
  · rfl
  · exact k
theorem bk_ret {J : I} {p : Pos} : exB J sc [.Return none p] σ = stop true := rfl
theorem rd_need {J : I} (h : exS J sc σ s = needR a σ) (k : (exB J sc r σ).bind toRet = needO b) : (exB J sc (s :: r) σ).bind toRet = needO (a && b) := by
  rw [b_cons, h]
  cases a
  · rfl
  · exact k
theorem rd_one {J : I} (h : exS J sc σ s = needR a σ) : (exB J sc [s] σ).bind toRet = needO a := by
  rw [b_cons, h]
  cases a <;> rfl
theorem rd_stop {J : I} (h : exS J sc σ s = stopR c a σ) (k : (exB J sc r σ).bind toRet = needO b) : (exB J sc (s :: r) σ).bind toRet = needO (iteB c a b) := by
  rw [b_cons, h]
  cases c
  · exact k
  · cases a <;> rfl
theorem rd_asg {J : I} (h : exS J sc σ s = .ok (.next σ')) (k : (exB J sc r σ').bind toRet = X) : (exB J sc (s :: r) σ).bind toRet = X := by
  rw [b_cons, h]; exact k
theorem rd_keep {J : I} {v : PV} (h : exS J sc σ s = needR a σ) (k : (exB J sc r σ).bind toRet = .ok v) : (exB J sc (s :: r) σ).bind toRet = okO v a := by
  rw [b_cons, h]
  cases a
  · rfl
  · exact k
theorem rd_keep2 {J : I} {v : PV} (h : exS J sc σ s = needR a σ) (k : (exB J sc r σ).bind toRet = okO v b) : (exB J sc (s :: r) σ).bind toRet = okO v (a && b) := by
  rw [b_cons, h]
  cases a
  · rfl
  · exact k
theorem rd_ret {e : Expr} {p : Pos} {v : PV} (h : (runM [] G n).1 sc σ e = yes v) : (exB (run G n) sc (.Return (some e) p :: r) σ).bind toRet = .ok v := by
  rw [b_cons, s_ret, yes_e h]; rfl
theorem fn_rd {ps : List Str} {body : List Stmt} {args : List PV} (hl : ps.length = args.length) (h : (exB (run G n) sc body (ps.zip args).reverse).bind toRet = X) : fnP G (n + 1) sc ps body args = X := by
  unfold fnP
  rw [if_pos hl]; exact h
end
noncomputable def isStrO (a : Out PV) (s : Str) : Bool := match a with
  | .ok v => (match v with
    | .str x => x == s
    | _ => false)
  | _ => false
theorem isStrO_eq {a : Out PV} {s : Str} (h : isStrO a s = true) : a = .ok (.str s) := by
  cases a with
  | ok v => cases v with
    | str x => rw [eq_of_beq (show (x == s) = true from h)]
    | _ => cases h
  | _ => cases h
noncomputable def isAlu (c : Int) : Bool := Builtin.bitAnd c 7 == 4 || Builtin.bitAnd c 7 == 7
noncomputable def isJmp (c : Int) : Bool := Builtin.bitAnd c 7 == 5 || Builtin.bitAnd c 7 == 6
noncomputable def isReg (c : Int) : Bool := Builtin.bitAnd c 8 != 0
noncomputable def widthP (c : Int) : Int := if (Builtin.bitAnd c 24 == 0) = true then 4 else if (Builtin.bitAnd c 24 == 8) = true then 2 else if (Builtin.bitAnd c 24 == 16) = true then 1 else 8
noncomputable def modeP (c : Int) : Str := if (Builtin.bitAnd c 224 == 96) = true then Str.ofString "mem" else if (Builtin.bitAnd c 224 == 192) = true then Str.ofString "atomic" else if (Builtin.bitAnd c 224 == 128) = true then Str.ofString "memsx" else if (Builtin.bitAnd c 224 == 0) = true then Str.ofString "imm" else if (Builtin.bitAnd c 224 == 32) = true then Str.ofString "abs" else if (Builtin.bitAnd c 224 == 64) = true then Str.ofString "ind" else Str.ofString ""
noncomputable def sizeP (c : Int) : Int := if (Builtin.bitAnd c 7 == 4 || Builtin.bitAnd c 7 == 6) = true then 32 else 64
noncomputable def isJump (c : Int) : Bool := isJmp c && Builtin.bitAnd c 240 == 0
noncomputable def isBranch (c : Int) : Bool := isJmp c && (!isJump c && (!(c == 133) && !(c == 149)))
noncomputable def deeds : List String := ["add", "sub", "mul", "div", "or", "and", "lsh", "rsh", "neg", "mod", "xor", "mov", "arsh", "end"]
noncomputable def jumps : List String := ["ja", "eq", "gt", "ge", "set", "ne", "sgt", "sge", "call", "exit", "lt", "le", "slt", "sle"]
noncomputable def opP (c : Int) : Str := if 14 <= c / 16 then Str.ofString "" else if isAlu c then Str.ofString (deeds.getD (c / 16).toNat "") else if isJmp c then Str.ofString (jumps.getD (c / 16).toNat "") else Str.ofString ""
noncomputable def FU (f : Int -> PV) (ps : List PV) : Out PV := match ps with
  | [v] => (match v with
    | .ord c _ _ _ _ _ => .ok (f c)
    | _ => .stuck)
  | _ => .stuck
noncomputable def FO (f : Int -> Int -> Int -> Int -> Int -> Int -> Out PV) (ps : List PV) : Out PV := match ps with
  | [v] => (match v with
    | .ord c d s o i m => f c d s o i m
    | _ => .stuck)
  | _ => .stuck
noncomputable def inB (c : Int) : Bool := decide (0 <= c) && decide (c < 256)
theorem inB_of {c : Int} (h : 0 <= c /\ c < 256) : inB c = true := by unfold inB; rw [decide_eq_true h.1, decide_eq_true h.2]; rfl
theorem of_inB {c : Int} (h : inB c = true) : 0 <= c /\ c < 256 := by
  unfold inB at h
  rw [Bool.and_eq_true, decide_eq_true_eq, decide_eq_true_eq] at h; exact h
noncomputable def grd (c : Int) (x : Out PV) : Out PV := if inB c = true then x else .stuck
theorem grd_pos {c : Int} (h : 0 <= c /\ c < 256) (x : Out PV) : grd c x = x := if_pos (inB_of h)
theorem fo_of {G : Gl} {sc : Scope} {ps : List Str} {body : List Stmt} {f : Int -> Int -> Int -> Int -> Int -> Int -> Out PV} (h : ∀ c d s o i m, f c d s o i m ≠ .stuck -> fnP G 12 sc ps body [.ord c d s o i m] = f c d s o i m) : ∀ args, FO f args ≠ .stuck -> fnP G 12 sc ps body args = FO f args
  | [v], hne => by
    cases v with
    | ord c d s o i m => exact h c d s o i m hne
    | _ => exact (hne rfl).elim
  | [], hne => (hne rfl).elim
  | _ :: _ :: _, hne => (hne rfl).elim
theorem fu_of {G : Gl} {sc : Scope} {ps : List Str} {body : List Stmt} {f : Int -> PV} (h : ∀ c d s o i m, fnP G 12 sc ps body [.ord c d s o i m] = .ok (f c)) : ∀ args, FU f args ≠ .stuck -> fnP G 12 sc ps body args = FU f args
  | [v], hne => by
    cases v with
    | ord c d s o i m => exact h c d s o i m
    | _ => exact (hne rfl).elim
  | [], hne => (hne rfl).elim
  | _ :: _ :: _, hne => (hne rfl).elim
noncomputable abbrev oN : List Str := [Str.ofString "order"]
theorem rd_ifi {G : Gl} {n : Nat} {sc : Scope} {σ : Vars} {r : List Stmt} {c : Bool} {t e : Expr} {q p : Pos} {x y : Int} (h : (runM [] G (n + 1)).2.1 sc σ t = yes c) (hv : (runM [] G n).1 sc σ e = yes (.int x)) (k : (exB (run G (n + 1)) sc r σ).bind toRet = .ok (.int y)) : (exB (run G (n + 1)) sc (.If t [.Return (some e) q] [] p :: r) σ).bind toRet = .ok (.int (if c = true then x else y)) := by
  rw [b_cons, s_if, yes_t h, bd_ok]
  cases c
  · exact k
  · rw [kI_t, r_b, b_cons, s_ret, yes_e hv]; rfl
theorem rd_ifs {G : Gl} {n : Nat} {sc : Scope} {σ : Vars} {r : List Stmt} {c : Bool} {t e : Expr} {q p : Pos} {x y : Str} (h : (runM [] G (n + 1)).2.1 sc σ t = yes c) (hv : (runM [] G n).1 sc σ e = yes (.str x)) (k : (exB (run G (n + 1)) sc r σ).bind toRet = .ok (.str y)) : (exB (run G (n + 1)) sc (.If t [.Return (some e) q] [] p :: r) σ).bind toRet = .ok (.str (if c = true then x else y)) := by
  rw [b_cons, s_if, yes_t h, bd_ok]
  cases c
  · exact k
  · rw [kI_t, r_b, b_cons, s_ret, yes_e hv]; rfl
theorem rd_ifb {G : Gl} {n : Nat} {sc : Scope} {σ : Vars} {r : List Stmt} {c : Bool} {t e : Expr} {q p : Pos} {x y : Bool} (h : (runM [] G (n + 1)).2.1 sc σ t = yes c) (hv : (runM [] G n).1 sc σ e = yes (.bool x)) (k : (exB (run G (n + 1)) sc r σ).bind toRet = .ok (.bool y)) : (exB (run G (n + 1)) sc (.If t [.Return (some e) q] [] p :: r) σ).bind toRet = .ok (.bool (if c = true then x else y)) := by
  rw [b_cons, s_if, yes_t h, bd_ok]
  cases c
  · exact k
  · rw [kI_t, r_b, b_cons, s_ret, yes_e hv]; rfl
noncomputable abbrev G_operation : Gl := GL [("is_alu", FU fun c => .bool (isAlu c)), ("is_jumping", FU fun c => .bool (isJmp c))]
section
variable (c d s o i m : Int)
theorem b_is_alu : fnP (GL []) 12 (fScope d_is_alu.1) oN (fBody d_is_alu.1) [.ord c d s o i m] = .ok (.bool (isAlu c)) := fn_rd rfl (rd_asg (σ' := [("kind", .int (Builtin.bitAnd c 7)), ("order", .ord c d s o i m)]) (by kernel_rfl) (rd_ret (by kernel_rfl)))
theorem b_is_jumping : fnP (GL []) 12 (fScope d_is_jumping.1) oN (fBody d_is_jumping.1) [.ord c d s o i m] = .ok (.bool (isJmp c)) := fn_rd rfl (rd_asg (σ' := [("kind", .int (Builtin.bitAnd c 7)), ("order", .ord c d s o i m)]) (by kernel_rfl) (rd_ret (by kernel_rfl)))
theorem b_is_register : fnP (GL []) 12 (fScope d_is_register.1) oN (fBody d_is_register.1) [.ord c d s o i m] = .ok (.bool (isReg c)) := fn_rd rfl (rd_ret (by kernel_rfl))
theorem b_width_of : fnP (GL []) 12 (fScope d_width_of.1) oN (fBody d_width_of.1) [.ord c d s o i m] = .ok (.int (widthP c)) := by
  unfold widthP
  exact fn_rd rfl (rd_asg (σ' := [("bits", .int (Builtin.bitAnd c 24)), ("order", .ord c d s o i m)]) (by kernel_rfl) (rd_ifi (by kernel_rfl) (by kernel_rfl) (rd_ifi (by kernel_rfl) (by kernel_rfl) (rd_ret (by kernel_rfl)))))
theorem b_mode_of : fnP (GL []) 12 (fScope d_mode_of.1) oN (fBody d_mode_of.1) [.ord c d s o i m] = .ok (.str (modeP c)) := by
  unfold modeP
  exact fn_rd rfl (rd_asg (σ' := [("bits", .int (Builtin.bitAnd c 224)), ("order", .ord c d s o i m)]) (by kernel_rfl) (rd_ifs (by kernel_rfl) (by kernel_rfl) (rd_ifs (by kernel_rfl) (by kernel_rfl) (rd_ifs (by kernel_rfl) (by kernel_rfl) (rd_ifs (by kernel_rfl) (by kernel_rfl) (rd_ifs (by kernel_rfl) (by kernel_rfl) (rd_ret (by kernel_rfl))))))))
theorem b_alu_size : fnP (GL []) 12 (fScope d_alu_size.1) oN (fBody d_alu_size.1) [.ord c d s o i m] = .ok (.int (sizeP c)) := by
  exact fn_rd rfl (rd_asg (σ' := [("kind", .int (Builtin.bitAnd c 7)), ("order", .ord c d s o i m)]) (by kernel_rfl) (rd_ret (by kernel_rfl)))
theorem b_is_wide : fnP (GL []) 12 (fScope d_is_wide.1) oN (fBody d_is_wide.1) [.ord c d s o i m] = .ok (.bool (c == 24)) := by
  exact fn_rd rfl (rd_ret (by kernel_rfl))
theorem b_is_jump : fnP (GL [("is_jumping", FU fun c => .bool (isJmp c))]) 12 (fScope d_is_jump.1) oN (fBody d_is_jump.1) [.ord c d s o i m] = .ok (.bool (isJump c)) := by
  exact fn_rd rfl (rd_ret (by kernel_rfl))
theorem b_is_call : fnP (GL []) 12 (fScope d_is_call.1) oN (fBody d_is_call.1) [.ord c d s o i m] = .ok (.bool (c == 133)) := by
  exact fn_rd rfl (rd_ret (by kernel_rfl))
theorem b_is_exit : fnP (GL []) 12 (fScope d_is_exit.1) oN (fBody d_is_exit.1) [.ord c d s o i m] = .ok (.bool (c == 149)) := by
  exact fn_rd rfl (rd_ret (by kernel_rfl))
theorem b_is_branch : fnP (GL [("is_jumping", FU fun c => .bool (isJmp c)), ("is_jump", FU fun c => .bool (isJump c)), ("is_call", FU fun c => .bool (c == 133)), ("is_exit", FU fun c => .bool (c == 149))]) 12 (fScope d_is_branch.1) oN (fBody d_is_branch.1) [.ord c d s o i m] = .ok (.bool (isBranch c)) := by
  exact fn_rd rfl (rd_ret (by kernel_rfl))
theorem e_operation : allBytes (fun c => isStrO (fnP G_operation 12 (fScope d_operation.1) oN (fBody d_operation.1) [.ord c d s o i m]) (opP c)) = true := by kernel_rfl
end
noncomputable def F_operation : List PV -> Out PV := FO fun c _ _ _ _ _ => grd c (.ok (.str (opP c)))
theorem cf_operation {c : Int} (hc : 0 <= c /\ c < 256) (d s o i m : Int) : F_operation [.ord c d s o i m] = .ok (.str (opP c)) := grd_pos hc _
theorem hF_operation : ∀ args, F_operation args ≠ .stuck -> fnP G_operation 12 (fScope d_operation.1) oN (fBody d_operation.1) args = F_operation args := fo_of fun c d s o i m hne => by
  unfold grd at hne ⊢
  cases h : inB c with
  | false => rw [h] at hne; exact (hne rfl).elim
  | true => rw [if_pos rfl]; exact isStrO_eq (byte_all (e_operation d s o i m) (of_inB h).1 (of_inB h).2)
noncomputable def F_need (ps : List PV) : Out PV := onCons ps fun v r => onBool v fun b => only r fun w => onStr w fun _ => needO b
noncomputable def fits (k : Nat) (w : Int) : Bool := decide (-(2 ^ (k - 1)) <= w) && decide (w < 2 ^ (k - 1))
noncomputable def F_fits_signed (ps : List PV) : Out PV := popInt ps fun w r => popInt r fun k r => onNil r (if k = 16 then .ok (.bool (fits 16 w)) else if k = 32 then .ok (.bool (fits 32 w)) else .stuck)
noncomputable def fetchS (i : Int) (x y : Str) : Str := if (Builtin.bitAnd i 1 != 0) = true then x else y
noncomputable def atomS (i : Int) : Str := if (i == 225) = true then Str.ofString "xchg" else if (i == 241) = true then Str.ofString "cmpxchg" else
  if (Builtin.bitAnd i (Builtin.bitNot 1) == 0) = true then fetchS i (Str.ofString "fetch_add") (Str.ofString "add") else
  if (Builtin.bitAnd i (Builtin.bitNot 1) == 64) = true then fetchS i (Str.ofString "fetch_or") (Str.ofString "or") else
  if (Builtin.bitAnd i (Builtin.bitNot 1) == 80) = true then fetchS i (Str.ofString "fetch_and") (Str.ofString "and") else
  if (Builtin.bitAnd i (Builtin.bitNot 1) == 160) = true then fetchS i (Str.ofString "fetch_xor") (Str.ofString "xor") else Str.ofString ""
noncomputable def F_atomic_name : List PV -> Out PV := FO fun _ _ _ _ i _ => .ok (.str (atomS i))
theorem rd_two {G : Gl} {n : Nat} {sc : Scope} {σ : Vars} {r A B : List Stmt} {c : Bool} {t : Expr} {p : Pos} {x y : Str} (h : (runM [] G n).2.1 sc σ t = yes c) (hA : (((run G n).b sc σ A).bind (kB (run G n) sc r)).bind toRet = .ok (.str x)) (hB : (((run G n).b sc σ B).bind (kB (run G n) sc r)).bind toRet = .ok (.str y)) : (exB (run G n) sc (.If t A B p :: r) σ).bind toRet = .ok (.str (if c = true then x else y)) := by
  rw [b_cons, s_if, yes_t h, bd_ok]
  cases c
  · rw [kI_f]; exact hB
  · rw [kI_t]; exact hA
theorem rd_two1 {G : Gl} {J : I} {n : Nat} {sc : Scope} {σ : Vars} {r A B : List Stmt} {c : Bool} {t : Expr} {p : Pos} {x y : Str} (h : (runM [] G n).2.1 sc σ t = yes c) (hA : (((run G n).b sc σ A).bind (kB J sc r)).bind toRet = .ok (.str x)) (hB : (((run G n).b sc σ B).bind (kB J sc r)).bind toRet = .ok (.str y)) : ((exB (run G n) sc [.If t A B p] σ).bind (kB J sc r)).bind toRet = .ok (.str (if c = true then x else y)) := by
  rw [b_cons, s_if, yes_t h, bd_ok]
  cases c
  · rw [kI_f]
    cases h0 : (run G n).b sc σ B with
    | ok q => rw [h0] at hB; cases q <;> exact hB
    | err p => rw [h0] at hB; exact hB
    | stuck => rw [h0] at hB; exact hB
  · rw [kI_t]
    cases h0 : (run G n).b sc σ A with
    | ok q => rw [h0] at hA; cases q <;> exact hA
    | err p => rw [h0] at hA; exact hA
    | stuck => rw [h0] at hA; exact hA
noncomputable def B_check_fields (c d s o i m : Int) : Bool := decide (0 <= c) && decide (c <= 255) && (decide (0 <= d) && decide (d <= 10) && (decide (0 <= s) && decide (s <= 10)) && (fits 16 o && (fits 32 i && fits 32 m && (m == 0 || c == 24))))
noncomputable def F_check_fields : List PV -> Out PV := FO fun c d s o i m => needO (B_check_fields c d s o i m)
theorem rd_check_fields (c d s o i m : Int) : fnP (GL [("need", F_need), ("fits_signed", F_fits_signed), ("is_wide", FU fun c => .bool (c == 24))]) 12 (fScope d_check_fields.1) oN (fBody d_check_fields.1) [.ord c d s o i m] = needO (B_check_fields c d s o i m) := fn_rd rfl (rd_need (st_x (by kernel_rfl)) (rd_need (st_x (by kernel_rfl)) (rd_need (st_x (by kernel_rfl)) (rd_need (st_x (by kernel_rfl)) (rd_one (st_x (by kernel_rfl)))))))
theorem hF_check_fields : ∀ args, F_check_fields args ≠ .stuck -> fnP (GL [("need", F_need), ("fits_signed", F_fits_signed), ("is_wide", FU fun c => .bool (c == 24))]) 12 (fScope d_check_fields.1) oN (fBody d_check_fields.1) args = F_check_fields args := fo_of fun c d s o i m _ => rd_check_fields ..
noncomputable def B_check_end (c d s o i m : Int) : Bool := s == 0 && o == 0 && ((i == 16 || (i == 32 || i == 64)) && (Builtin.bitAnd c 7 != 7 || !isReg c))
noncomputable def F_check_end : List PV -> Out PV := FO fun c d s o i m => needO (B_check_end c d s o i m)
theorem rd_check_end (c d s o i m : Int) : fnP (GL [("need", F_need), ("is_register", FU fun c => .bool (isReg c))]) 12 (fScope d_check_end.1) oN (fBody d_check_end.1) [.ord c d s o i m] = needO (B_check_end c d s o i m) := fn_rd rfl (rd_need (st_x (by kernel_rfl)) (rd_need (st_x (by kernel_rfl)) (rd_one (st_x (by kernel_rfl)))))
theorem hF_check_end : ∀ args, F_check_end args ≠ .stuck -> fnP (GL [("need", F_need), ("is_register", FU fun c => .bool (isReg c))]) 12 (fScope d_check_end.1) oN (fBody d_check_end.1) args = F_check_end args := fo_of fun c d s o i m _ => rd_check_end ..
noncomputable def B_check_extension (c d s o i m : Int) : Bool := o == 0 || (o == 8 || o == 16) || o == 32 && sizeP c == 64
noncomputable def F_check_extension : List PV -> Out PV := FO fun c d s o i m => needO (B_check_extension c d s o i m)
theorem rd_check_extension (c d s o i m : Int) : fnP (GL [("need", F_need), ("alu_size", FU fun c => .int (sizeP c))]) 12 (fScope d_check_extension.1) oN (fBody d_check_extension.1) [.ord c d s o i m] = needO (B_check_extension c d s o i m) := fn_rd rfl (rd_asg (st_as (v := .bool (o == 0 || (o == 8 || o == 16))) (by kernel_rfl) rfl rfl) (rd_one (st_x (by kernel_rfl))))
theorem hF_check_extension : ∀ args, F_check_extension args ≠ .stuck -> fnP (GL [("need", F_need), ("alu_size", FU fun c => .int (sizeP c))]) 12 (fScope d_check_extension.1) oN (fBody d_check_extension.1) args = F_check_extension args := fo_of fun c d s o i m _ => rd_check_extension ..
noncomputable def B_check_number (c d s o i m : Int) (nm : Str) : Bool := iteB (nm == Str.ofString "lsh" || (nm == Str.ofString "rsh" || nm == Str.ofString "arsh")) (decide (0 <= i) && decide (i < sizeP c)) true && iteB (nm == Str.ofString "div" || nm == Str.ofString "mod") (i != 0) true
noncomputable def F_check_number (ps : List PV) : Out PV := onCons ps fun v r => onOrd v fun c d s o i m => only r fun w => onStr w fun nm => needO (B_check_number c d s o i m nm)
theorem rd_check_number (c d s o i m : Int) (nm : Str) : fnP (GL [("need", F_need), ("alu_size", FU fun c => .int (sizeP c))]) 12 (fScope d_check_number.1) [Str.ofString "order", Str.ofString "name"] (fBody d_check_number.1) [.ord c d s o i m, .str nm] = needO (B_check_number c d s o i m nm) := fn_rd rfl (rd_need (st_if (by kernel_rfl) (bk_one (st_x (by kernel_rfl))) rfl) (rd_one (st_if (by kernel_rfl) (bk_one (st_x (by kernel_rfl))) rfl)))
theorem hF_check_number : ∀ args, F_check_number args ≠ .stuck -> fnP (GL [("need", F_need), ("alu_size", FU fun c => .int (sizeP c))]) 12 (fScope d_check_number.1) [Str.ofString "order", Str.ofString "name"] (fBody d_check_number.1) args = F_check_number args := by
  intro args hne
  obtain ⟨v, r, rfl⟩ := onCons_is hne
  obtain ⟨c, d, s, o, i, m, rfl⟩ := onOrd_is (v := v) hne
  obtain ⟨w, rfl⟩ := only_is (l := r) hne
  obtain ⟨nm, rfl⟩ := onStr_is (v := w) hne
  exact rd_check_number ..
noncomputable def B_check_jump (c d s o i m : Int) : Bool := !isReg c && (d == 0 && s == 0 && iteB (c == 6) (o == 0) (i == 0))
noncomputable def F_check_jump : List PV -> Out PV := FO fun c d s o i m => needO (B_check_jump c d s o i m)
theorem rd_check_jump (c d s o i m : Int) : fnP (GL [("need", F_need), ("is_register", FU fun c => .bool (isReg c))]) 12 (fScope d_check_jump.1) oN (fBody d_check_jump.1) [.ord c d s o i m] = needO (B_check_jump c d s o i m) := fn_rd rfl (rd_need (st_x (by kernel_rfl)) (rd_need (st_x (by kernel_rfl)) (rd_one (st_if (by kernel_rfl) (bk_one (st_x (by kernel_rfl))) (bk_one (st_x (by kernel_rfl)))))))
theorem hF_check_jump : ∀ args, F_check_jump args ≠ .stuck -> fnP (GL [("need", F_need), ("is_register", FU fun c => .bool (isReg c))]) 12 (fScope d_check_jump.1) oN (fBody d_check_jump.1) args = F_check_jump args := fo_of fun c d s o i m _ => rd_check_jump ..
noncomputable def B_check_load (c d s o i m : Int) : Bool := (modeP c == Str.ofString "mem" || modeP c == Str.ofString "memsx") && ((modeP c == Str.ofString "mem" || widthP c != 8) && i == 0)
noncomputable def F_check_load : List PV -> Out PV := FO fun c d s o i m => needO (B_check_load c d s o i m)
theorem rd_check_load (c d s o i m : Int) : fnP (GL [("need", F_need), ("mode_of", FU fun c => .str (modeP c)), ("width_of", FU fun c => .int (widthP c))]) 12 (fScope d_check_load.1) oN (fBody d_check_load.1) [.ord c d s o i m] = needO (B_check_load c d s o i m) := fn_rd rfl (rd_asg (st_as (v := .str (modeP c)) (by kernel_rfl) rfl rfl) (rd_need (st_x (by kernel_rfl)) (rd_need (st_x (by kernel_rfl)) (rd_one (st_x (by kernel_rfl))))))
theorem hF_check_load : ∀ args, F_check_load args ≠ .stuck -> fnP (GL [("need", F_need), ("mode_of", FU fun c => .str (modeP c)), ("width_of", FU fun c => .int (widthP c))]) 12 (fScope d_check_load.1) oN (fBody d_check_load.1) args = F_check_load args := fo_of fun c d s o i m _ => rd_check_load ..
noncomputable def B_check_stx (c d s o i m : Int) : Bool := (modeP c == Str.ofString "mem" || modeP c == Str.ofString "atomic") && iteB (modeP c == Str.ofString "mem") (i == 0 && true) ((widthP c == 4 || widthP c == 8) && atomS i != Str.ofString "")
noncomputable def F_check_stx : List PV -> Out PV := FO fun c d s o i m => needO (B_check_stx c d s o i m)
theorem rd_check_stx (c d s o i m : Int) : fnP (GL [("need", F_need), ("mode_of", FU fun c => .str (modeP c)), ("width_of", FU fun c => .int (widthP c)), ("atomic_name", F_atomic_name)]) 12 (fScope d_check_stx.1) oN (fBody d_check_stx.1) [.ord c d s o i m] = needO (B_check_stx c d s o i m) := fn_rd rfl (rd_asg (st_as (v := .str (modeP c)) (by kernel_rfl) rfl rfl) (rd_need (st_x (by kernel_rfl)) (rd_stop (st_ifs (by kernel_rfl) (bk_stop (st_x (by kernel_rfl)) bk_ret)) (rd_need (st_x (by kernel_rfl)) (rd_one (st_x (by kernel_rfl)))))))
theorem hF_check_stx : ∀ args, F_check_stx args ≠ .stuck -> fnP (GL [("need", F_need), ("mode_of", FU fun c => .str (modeP c)), ("width_of", FU fun c => .int (widthP c)), ("atomic_name", F_atomic_name)]) 12 (fScope d_check_stx.1) oN (fBody d_check_stx.1) args = F_check_stx args := fo_of fun c d s o i m _ => rd_check_stx ..
noncomputable def B_check_alu (c d s o i m : Int) : Bool := opP c != Str.ofString "" && iteB (opP c == Str.ofString "end") (B_check_end c d s o i m && true) (iteB (opP c == Str.ofString "neg") (!isReg c && (s == 0 && (o == 0 && i == 0) && true)) (iteB (isReg c) (i == 0) (s == 0 && B_check_number c d s o i m (opP c)) && iteB (opP c == Str.ofString "div" || opP c == Str.ofString "mod") (o == 0 || o == 1) (iteB (opP c == Str.ofString "mov" && isReg c) (B_check_extension c d s o i m) (o == 0))))
noncomputable def F_check_alu : List PV -> Out PV := FO fun c d s o i m => grd c (needO (B_check_alu c d s o i m))
theorem cf_check_alu {c : Int} (hc : 0 <= c /\ c < 256) (d s o i m : Int) : F_check_alu [.ord c d s o i m] = needO (B_check_alu c d s o i m) := grd_pos hc _
theorem rd_check_alu {c : Int} (hc : 0 <= c /\ c < 256) (d s o i m : Int) : fnP (GL [("need", F_need), ("operation", F_operation), ("is_register", FU fun c => .bool (isReg c)), ("check_end", F_check_end), ("check_number", F_check_number), ("check_extension", F_check_extension)]) 12 (fScope d_check_alu.1) oN (fBody d_check_alu.1) [.ord c d s o i m] = needO (B_check_alu c d s o i m) := by
  unfold B_check_alu
  generalize hn : opP c = nm
  refine fn_rd rfl (rd_asg (σ' := [("name", .str nm), ("order", .ord c d s o i m)]) (st_ask (O := [(310022310054, fun _ => .ok (.str nm))]) (cs := [F_operation [.ord c d s o i m] = .ok (.str nm)]) (by kernel_rfl) ⟨by rw [cf_operation hc, hn], trivial⟩ rfl rfl) (rd_need (st_x (by kernel_rfl)) (rd_stop (st_ifs (by kernel_rfl) (bk_stop (st_x (by kernel_rfl)) bk_ret)) (rd_stop (st_ifs (by kernel_rfl) (bk_stop (st_x (by kernel_rfl)) (bk_stop (st_x (by kernel_rfl)) bk_ret))) (rd_need (st_if (by kernel_rfl) (bk_one (st_x (by kernel_rfl))) (bk_need (st_x (by kernel_rfl)) (bk_one (st_x (by kernel_rfl))))) (rd_one (st_if (by kernel_rfl) (bk_one (st_x (by kernel_rfl))) (bk_one (st_if (by kernel_rfl) (bk_one (st_x (by kernel_rfl))) (bk_one (st_x (by kernel_rfl))))))))))))
theorem hF_check_alu : ∀ args, F_check_alu args ≠ .stuck -> fnP (GL [("need", F_need), ("operation", F_operation), ("is_register", FU fun c => .bool (isReg c)), ("check_end", F_check_end), ("check_number", F_check_number), ("check_extension", F_check_extension)]) 12 (fScope d_check_alu.1) oN (fBody d_check_alu.1) args = F_check_alu args := fo_of fun c d s o i m hne => by
  unfold grd at hne ⊢
  cases h : inB c with
  | false => rw [h] at hne; exact (hne rfl).elim
  | true => rw [if_pos rfl]; exact rd_check_alu (of_inB h) ..
noncomputable def B_check_jumping (c d s o i m : Int) : Bool := opP c != Str.ofString "" && iteB (isJump c) (B_check_jump c d s o i m) (iteB (opP c == Str.ofString "call") (c == 133 && (d == 0 && o == 0 && (s == 0 || s == 1))) (iteB (opP c == Str.ofString "exit") (c == 149 && (d == 0 && (s == 0 && (o == 0 && i == 0)))) (iteB (isReg c) (isBranch c && i == 0) (isBranch c && s == 0))))
noncomputable def F_check_jumping : List PV -> Out PV := FO fun c d s o i m => grd c (needO (B_check_jumping c d s o i m))
theorem cf_check_jumping {c : Int} (hc : 0 <= c /\ c < 256) (d s o i m : Int) : F_check_jumping [.ord c d s o i m] = needO (B_check_jumping c d s o i m) := grd_pos hc _
theorem rd_check_jumping {c : Int} (hc : 0 <= c /\ c < 256) (d s o i m : Int) : fnP (GL [("need", F_need), ("operation", F_operation), ("is_register", FU fun c => .bool (isReg c)), ("is_jump", FU fun c => .bool (isJump c)), ("check_jump", F_check_jump), ("is_call", FU fun c => .bool (c == 133)), ("is_exit", FU fun c => .bool (c == 149)), ("is_branch", FU fun c => .bool (isBranch c))]) 12 (fScope d_check_jumping.1) oN (fBody d_check_jumping.1) [.ord c d s o i m] = needO (B_check_jumping c d s o i m) := by
  unfold B_check_jumping
  generalize hn : opP c = nm
  refine fn_rd rfl (rd_asg (σ' := [("name", .str nm), ("order", .ord c d s o i m)]) (st_ask (O := [(366022366054, fun _ => .ok (.str nm))]) (cs := [F_operation [.ord c d s o i m] = .ok (.str nm)]) (by kernel_rfl) ⟨by rw [cf_operation hc, hn], trivial⟩ rfl rfl) (rd_need (st_x (by kernel_rfl)) (rd_one (st_if (by kernel_rfl) (bk_one (st_x (by kernel_rfl))) (bk_one (st_if (by kernel_rfl) (bk_need (st_x (by kernel_rfl)) (bk_need (st_x (by kernel_rfl)) (bk_one (st_x (by kernel_rfl))))) (bk_one (st_if (by kernel_rfl) (bk_need (st_x (by kernel_rfl)) (bk_one (st_x (by kernel_rfl)))) (bk_one (st_if (by kernel_rfl) (bk_one (st_x (by kernel_rfl))) (bk_one (st_x (by kernel_rfl)))))))))))))
theorem hF_check_jumping : ∀ args, F_check_jumping args ≠ .stuck -> fnP (GL [("need", F_need), ("operation", F_operation), ("is_register", FU fun c => .bool (isReg c)), ("is_jump", FU fun c => .bool (isJump c)), ("check_jump", F_check_jump), ("is_call", FU fun c => .bool (c == 133)), ("is_exit", FU fun c => .bool (c == 149)), ("is_branch", FU fun c => .bool (isBranch c))]) 12 (fScope d_check_jumping.1) oN (fBody d_check_jumping.1) args = F_check_jumping args := fo_of fun c d s o i m hne => by
  unfold grd at hne ⊢
  cases h : inB c with
  | false => rw [h] at hne; exact (hne rfl).elim
  | true => rw [if_pos rfl]; exact rd_check_jumping (of_inB h) ..
noncomputable def B_check_order (c d s o i m : Int) : Bool := B_check_fields c d s o i m && iteB (isAlu c) (B_check_alu c d s o i m) (iteB (isJmp c) (B_check_jumping c d s o i m) (iteB (Builtin.bitAnd c 7 == 0) (c == 24 && ((s == 0 || s == 1) && ((s == 0 || m == 0) && o == 0))) (iteB (Builtin.bitAnd c 7 == 1) (B_check_load c d s o i m) (iteB (Builtin.bitAnd c 7 == 2) (modeP c == Str.ofString "mem" && s == 0) (iteB (Builtin.bitAnd c 7 == 3) (B_check_stx c d s o i m) true)))))
noncomputable def F_check_order : List PV -> Out PV := FO fun c d s o i m => grd c (okO (.ord c d s o i m) (B_check_order c d s o i m))
theorem cf_check_order {c : Int} (hc : 0 <= c /\ c < 256) (d s o i m : Int) : F_check_order [.ord c d s o i m] = okO (.ord c d s o i m) (B_check_order c d s o i m) := grd_pos hc _
theorem rd_check_order {c : Int} (hc : 0 <= c /\ c < 256) (d s o i m : Int) : fnP (GL [("need", F_need), ("check_fields", F_check_fields), ("is_alu", FU fun c => .bool (isAlu c)), ("is_jumping", FU fun c => .bool (isJmp c)), ("check_alu", F_check_alu), ("check_jumping", F_check_jumping), ("is_wide", FU fun c => .bool (c == 24)), ("check_load", F_check_load), ("mode_of", FU fun c => .str (modeP c)), ("check_stx", F_check_stx)]) 12 (fScope d_check_order.1) oN (fBody d_check_order.1) [.ord c d s o i m] = okO (.ord c d s o i m) (B_check_order c d s o i m) := fn_rd rfl (rd_keep2 (st_x (by kernel_rfl)) (rd_asg (st_as (v := .int (Builtin.bitAnd c 7)) (by kernel_rfl) rfl rfl) (rd_keep (st_if (by kernel_rfl) (bk_one (st_x2 (by kernel_rfl) (cf_check_alu hc ..))) (bk_one (st_if (by kernel_rfl) (bk_one (st_x2 (by kernel_rfl) (cf_check_jumping hc ..))) (bk_one (st_if (by kernel_rfl) (bk_need (st_x (by kernel_rfl)) (bk_need (st_x (by kernel_rfl)) (bk_need (st_x (by kernel_rfl)) (bk_one (st_x (by kernel_rfl)))))) (bk_one (st_if (by kernel_rfl) (bk_one (st_x (by kernel_rfl))) (bk_one (st_if (by kernel_rfl) (bk_need (st_x (by kernel_rfl)) (bk_one (st_x (by kernel_rfl)))) (bk_one (st_if (by kernel_rfl) (bk_one (st_x (by kernel_rfl))) rfl))))))))))) (rd_ret (by kernel_rfl)))))
theorem hF_check_order : ∀ args, F_check_order args ≠ .stuck -> fnP (GL [("need", F_need), ("check_fields", F_check_fields), ("is_alu", FU fun c => .bool (isAlu c)), ("is_jumping", FU fun c => .bool (isJmp c)), ("check_alu", F_check_alu), ("check_jumping", F_check_jumping), ("is_wide", FU fun c => .bool (c == 24)), ("check_load", F_check_load), ("mode_of", FU fun c => .str (modeP c)), ("check_stx", F_check_stx)]) 12 (fScope d_check_order.1) oN (fBody d_check_order.1) args = F_check_order args := fo_of fun c d s o i m hne => by
  unfold grd at hne ⊢
  cases h : inB c with
  | false => rw [h] at hne; exact (hne rfl).elim
  | true => rw [if_pos rfl]; exact rd_check_order (of_inB h) ..
section
variable {G : Gl} {J : I} {n : Nat} {sc : Scope} {σ σ' : Vars} {r A B : List Stmt} {c : Bool} {t e : Expr} {p q : Pos} {X : Out PV} {v : PV}
theorem rd_go (hb : (run G n).b sc σ A = .ok (.next σ')) (k : (exB J sc r σ').bind toRet = X) : (((run G n).b sc σ A).bind (kB J sc r)).bind toRet = X := by
  rw [hb]; exact k
theorem rd_skip (h : (runM [] G (n + 1)).2.1 sc σ t = yes false) (k : (exB (run G (n + 1)) sc r σ).bind toRet = X) : (exB (run G (n + 1)) sc (.If t A [] p :: r) σ).bind toRet = X := by
  rw [b_cons, s_if, yes_t h, bd_ok]; exact k
theorem rd_took (h : (runM [] G (n + 1)).2.1 sc σ t = yes true) (hv : (runM [] G n).1 sc σ e = yes v) : (exB (run G (n + 1)) sc (.If t [.Return (some e) q] B p :: r) σ).bind toRet = .ok v := by
  rw [b_cons, s_if, yes_t h, bd_ok, kI_t, r_b, b_cons, s_ret, yes_e hv]; rfl
end
section
variable (c d s o i m : Int)
theorem rd_atomic : fnP (GL []) 12 (fScope d_atomic_name.1) oN (fBody d_atomic_name.1) [.ord c d s o i m] = .ok (.str (atomS i)) := by
  unfold atomS
  exact fn_rd rfl (rd_ifs (by kernel_rfl) (by kernel_rfl) (rd_ifs (by kernel_rfl) (by kernel_rfl)
    (rd_asg (σ' := [("plain", .int (Builtin.bitAnd i (Builtin.bitNot 1))), ("order", .ord c d s o i m)]) (by kernel_rfl)
    (rd_asg (σ' := [("name", .str (Str.ofString "")), ("plain", .int (Builtin.bitAnd i (Builtin.bitNot 1))), ("order", .ord c d s o i m)]) (by kernel_rfl)
    (rd_two (by kernel_rfl) (rd_go (σ' := [("name", .str (Str.ofString "add")), ("name", .str (Str.ofString "")), ("plain", .int (Builtin.bitAnd i (Builtin.bitNot 1))), ("order", .ord c d s o i m)]) (by kernel_rfl) (rd_skip (by kernel_rfl) (rd_ret (by kernel_rfl))))
    (rd_two1 (by kernel_rfl) (rd_go (σ' := [("name", .str (Str.ofString "or")), ("name", .str (Str.ofString "")), ("plain", .int (Builtin.bitAnd i (Builtin.bitNot 1))), ("order", .ord c d s o i m)]) (by kernel_rfl) (rd_skip (by kernel_rfl) (rd_ret (by kernel_rfl))))
    (rd_two1 (by kernel_rfl) (rd_go (σ' := [("name", .str (Str.ofString "and")), ("name", .str (Str.ofString "")), ("plain", .int (Builtin.bitAnd i (Builtin.bitNot 1))), ("order", .ord c d s o i m)]) (by kernel_rfl) (rd_skip (by kernel_rfl) (rd_ret (by kernel_rfl))))
    (rd_two1 (by kernel_rfl) (rd_go (σ' := [("name", .str (Str.ofString "xor")), ("name", .str (Str.ofString "")), ("plain", .int (Builtin.bitAnd i (Builtin.bitNot 1))), ("order", .ord c d s o i m)]) (by kernel_rfl) (rd_skip (by kernel_rfl) (rd_ret (by kernel_rfl))))
    (rd_go (σ' := [("name", .str (Str.ofString "")), ("plain", .int (Builtin.bitAnd i (Builtin.bitNot 1))), ("order", .ord c d s o i m)]) (by kernel_rfl) (rd_took (by kernel_rfl) (by kernel_rfl)))))))))))
end
theorem hF_atomic_name : ∀ args, F_atomic_name args ≠ .stuck -> fnP (GL []) 12 (fScope d_atomic_name.1) oN (fBody d_atomic_name.1) args = F_atomic_name args := fo_of fun c d s o i m _ => rd_atomic ..
noncomputable def sgn (k : Nat) (w : Int) : Int := if 2 ^ k <= 2 * w then w - 2 ^ k else w
theorem rd_fits16 (G : Gl) (w : Int) : fnP G 12 (fScope d_fits_signed.1) [Str.ofString "worth", Str.ofString "size"] (fBody d_fits_signed.1) [.int w, .int 16] = .ok (.bool (fits 16 w)) := fn_rd rfl (rd_ret (by kernel_rfl))
theorem rd_fits32 (G : Gl) (w : Int) : fnP G 12 (fScope d_fits_signed.1) [Str.ofString "worth", Str.ofString "size"] (fBody d_fits_signed.1) [.int w, .int 32] = .ok (.bool (fits 32 w)) := fn_rd rfl (rd_ret (by kernel_rfl))
theorem sg_raw {l w a b : Int} (e : l = w) (h : (Int.fdiv w a != 0) = decide (b <= 2 * w)) : (if (Int.fdiv l a != 0) = true then l - b else l) = if b <= 2 * w then w - b else w := by
  rw [e, h]
  by_cases q : b <= 2 * w
  · rw [decide_eq_true q, if_pos rfl, if_pos q]
  · rw [decide_eq_false q, if_neg Bool.false_ne_true, if_neg q]
theorem rd_signed16 (G : Gl) (w : Int) (h0 : 0 <= w) (h1 : w < 65536) : fnP G 12 (fScope d_signed.1) [Str.ofString "worth", Str.ofString "size"] (fBody d_signed.1) [.int w, .int 16] = .ok (.int (sgn 16 w)) := by
  refine (fn_rd rfl (rd_asg (σ' := [("low", .int (Builtin.bitAnd w 65535)), ("size", .int 16), ("worth", .int w)]) (by kernel_rfl) (rd_ret (v := .int (if (Int.fdiv (Builtin.bitAnd w 65535) 32768 != 0) = true then Builtin.bitAnd w 65535 - 65536 else Builtin.bitAnd w 65535)) (by kernel_rfl)))).trans ?_
  have e : Builtin.bitAnd w 65535 = w := by
    have := kbt_mask w 16
    rw [show (65535 : Int) = 2 ^ 16 - 1 by decide, this]; exact Int.emod_eq_of_lt h0 h1
  rw [sg_raw (b := 65536) e (by
    rw [Int.fdiv_eq_ediv_of_nonneg _ (by decide), Bool.eq_iff_iff, bne_iff_ne, decide_eq_true_eq]; omega)]
  rfl
theorem rd_signed32 (G : Gl) (w : Int) (h0 : 0 <= w) (h1 : w < 4294967296) : fnP G 12 (fScope d_signed.1) [Str.ofString "worth", Str.ofString "size"] (fBody d_signed.1) [.int w, .int 32] = .ok (.int (sgn 32 w)) := by
  refine (fn_rd rfl (rd_asg (σ' := [("low", .int (Builtin.bitAnd w 4294967295)), ("size", .int 32), ("worth", .int w)]) (by kernel_rfl) (rd_ret (v := .int (if (Int.fdiv (Builtin.bitAnd w 4294967295) 2147483648 != 0) = true then Builtin.bitAnd w 4294967295 - 4294967296 else Builtin.bitAnd w 4294967295)) (by kernel_rfl)))).trans ?_
  have e : Builtin.bitAnd w 4294967295 = w := by
    have := kbt_mask w 32
    rw [show (4294967295 : Int) = 2 ^ 32 - 1 by decide, this]; exact Int.emod_eq_of_lt h0 h1
  rw [sg_raw (b := 4294967296) e (by
    rw [Int.fdiv_eq_ediv_of_nonneg _ (by decide), Bool.eq_iff_iff, bne_iff_ne, decide_eq_true_eq]; omega)]
  rfl
theorem num_raw {w b : Int} : (if decide (b <= w * 2) = true then w - b else w) = if b <= 2 * w then w - b else w := by
  rw [Int.mul_comm w 2]
  by_cases q : b <= 2 * w
  · rw [decide_eq_true q, if_pos rfl, if_pos q]
  · rw [decide_eq_false q, if_neg Bool.false_ne_true, if_neg q]
theorem rd_law_number16 (w : Int) : fnP (GL []) 12 (fScope d_law_number.1) [Str.ofString "low", Str.ofString "size"] (fBody d_law_number.1) [.int w, .int 16] = .ok (.int (sgn 16 w)) := by
  refine (fn_rd rfl (rd_ret (v := .int (if decide (65536 <= w * 2) = true then w - 65536 else w)) (by kernel_rfl))).trans ?_
  rw [num_raw]; rfl
theorem rd_law_number32 (w : Int) : fnP (GL []) 12 (fScope d_law_number.1) [Str.ofString "low", Str.ofString "size"] (fBody d_law_number.1) [.int w, .int 32] = .ok (.int (sgn 32 w)) := by
  refine (fn_rd rfl (rd_ret (v := .int (if decide (4294967296 <= w * 2) = true then w - 4294967296 else w)) (by kernel_rfl))).trans ?_
  rw [num_raw]; rfl
noncomputable def LD (q : Int) (R S : Bool) (s o i : Int) : Bool := if decide (13 < q) = true then false else if (q == 13) = true then (s == 0 && (o == 0 && ((([16, 32, 64] : List Int).any fun y => y == i) && !(S && R)))) else if (q == 8) = true then (!R && (s == 0 && (o == 0 && i == 0))) else if (R && i != 0 || !R && s != 0) = true then false else if (!R && ((([6, 7, 12] : List Int).any fun y => y == q) && !(decide (0 <= i) && decide (i < if S = true then 64 else 32)))) = true then false else if (!R && ((([3, 9] : List Int).any fun y => y == q) && i == 0)) = true then false else if (([3, 9] : List Int).any fun y => y == q) = true then (([0, 1] : List Int).any fun y => y == o) else if (q == 11 && R) = true then ((([0, 8, 16] : List Int).any fun y => y == o) || o == 32 && S) else o == 0
noncomputable def L_law_deed_is (c s o i : Int) : Bool := LD (c.fdiv 16) ((c.fdiv 8).fmod 2 == 1) (c.fmod 8 == 7) s o i
noncomputable def LJ (c q : Int) (R : Bool) (d s o i : Int) : Bool := if decide (13 < q) = true then false else if (q == 0) = true then (!R && (d == 0 && (s == 0 && (if (Int.fmod c 8 == 5) = true then i else o) == 0))) else if (q == 8) = true then (c == 133 && (d == 0 && (o == 0 && (([0, 1] : List Int).any fun y => y == s)))) else if (q == 9) = true then (c == 149 && (d == 0 && (s == 0 && (o == 0 && i == 0)))) else if R = true then i == 0 else s == 0
noncomputable def L_law_jump_is (c d s o i : Int) : Bool := LJ c (c.fdiv 16) ((c.fdiv 8).fmod 2 == 1) d s o i
noncomputable def LI (c md wb g d s o i : Int) : Bool := if (decide (10 < d) || decide (10 < s)) = true then false else if (g == 4 || g == 7) = true then L_law_deed_is c s o i else if (g == 5 || g == 6) = true then L_law_jump_is c d s o i else if (g == 0) = true then (c == 24 && ((([0, 1] : List Int).any fun y => y == s) && o == 0)) else if (g == 1) = true then (i == 0 && (md == 3 || md == 4 && wb != 3)) else if (g == 2) = true then (md == 3 && s == 0) else if (md == 3) = true then i == 0 else (md == 6 && ((([0, 3] : List Int).any fun y => y == wb) && (([0, 1, 64, 65, 80, 81, 160, 161, 225, 241] : List Int).any fun y => y == i)))
noncomputable def L_law_is (c d s o i : Int) : Bool := LI c (c.fdiv 32) ((c.fdiv 8).fmod 4) (c.fmod 8) d s o i
theorem deed_rest (q : Int) (R S : Bool) (c s o i : Int) : (exB (run (GL []) 11) (fScope d_law_deed_is.1) (fBody d_law_deed_is.1).tail [("is_64", .bool S), ("by_reg", .bool R), ("deed", .int q), ("whole", .int i), ("away", .int o), ("back", .int s), ("kind", .int c)]).bind toRet = .ok (.bool (LD q R S s o i)) := by
  unfold LD
  exact (rd_ifb (by kernel_rfl) (by kernel_rfl) (rd_ifb (by kernel_rfl) (by kernel_rfl) (rd_ifb (by kernel_rfl) (by kernel_rfl) (rd_ifb (by kernel_rfl) (by kernel_rfl) (rd_ifb (by kernel_rfl) (by kernel_rfl) (rd_ifb (by kernel_rfl) (by kernel_rfl) (rd_ifb (by kernel_rfl) (by kernel_rfl) (rd_ifb (by kernel_rfl) (by kernel_rfl) (rd_ret (by kernel_rfl))))))))))
theorem rd_law_deed_is (c s o i : Int) : fnP (GL []) 12 (fScope d_law_deed_is.1) [Str.ofString "kind", Str.ofString "back", Str.ofString "away", Str.ofString "whole"] (fBody d_law_deed_is.1) [.int c, .int s, .int o, .int i] = .ok (.bool (L_law_deed_is c s o i)) := fn_rd rfl (rd_asg (σ' := [("is_64", .bool (c.fmod 8 == 7)), ("by_reg", .bool ((c.fdiv 8).fmod 2 == 1)), ("deed", .int (c.fdiv 16)), ("whole", .int i), ("away", .int o), ("back", .int s), ("kind", .int c)]) (by kernel_rfl) (deed_rest ..))
theorem jump_rest (q : Int) (R : Bool) (c d s o i : Int) : (exB (run (GL []) 11) (fScope d_law_jump_is.1) (fBody d_law_jump_is.1).tail [("by_reg", .bool R), ("deed", .int q), ("whole", .int i), ("away", .int o), ("back", .int s), ("goal", .int d), ("kind", .int c)]).bind toRet = .ok (.bool (LJ c q R d s o i)) := by
  unfold LJ
  exact (rd_ifb (by kernel_rfl) (by kernel_rfl) (rd_ifb (by kernel_rfl) (by kernel_rfl) (rd_ifb (by kernel_rfl) (by kernel_rfl) (rd_ifb (by kernel_rfl) (by kernel_rfl) (rd_ret (by kernel_rfl))))))
theorem rd_law_jump_is (c d s o i : Int) : fnP (GL []) 12 (fScope d_law_jump_is.1) [Str.ofString "kind", Str.ofString "goal", Str.ofString "back", Str.ofString "away", Str.ofString "whole"] (fBody d_law_jump_is.1) [.int c, .int d, .int s, .int o, .int i] = .ok (.bool (L_law_jump_is c d s o i)) := fn_rd rfl (rd_asg (σ' := [("by_reg", .bool ((c.fdiv 8).fmod 2 == 1)), ("deed", .int (c.fdiv 16)), ("whole", .int i), ("away", .int o), ("back", .int s), ("goal", .int d), ("kind", .int c)]) (by kernel_rfl) (jump_rest ..))
noncomputable def ints5 (f : Int -> Int -> Int -> Int -> Int -> Bool) (ps : List PV) : Out PV := popInt ps fun c r => popInt r fun d r => popInt r fun s r => popInt r fun o r => popInt r fun i r => onNil r (.ok (.bool (f c d s o i)))
theorem ints5_is {f : Int -> Int -> Int -> Int -> Int -> Bool} {ps : List PV} (h : ints5 f ps ≠ .stuck) : ∃ c d s o i, ps = [.int c, .int d, .int s, .int o, .int i] := by
  obtain ⟨c, r, rfl⟩ := popInt_is h
  obtain ⟨d, r, rfl⟩ := popInt_is (l := r) h
  obtain ⟨s, r, rfl⟩ := popInt_is (l := r) h
  obtain ⟨o, r, rfl⟩ := popInt_is (l := r) h
  obtain ⟨i, r, rfl⟩ := popInt_is (l := r) h
  obtain rfl := onNil_is (l := r) h
  exact ⟨c, d, s, o, i, rfl⟩
noncomputable def F_law_deed_is (ps : List PV) : Out PV := popInt ps fun c r => popInt r fun s r => popInt r fun o r => popInt r fun i r => onNil r (.ok (.bool (L_law_deed_is c s o i)))
noncomputable def F_law_jump_is : List PV -> Out PV := ints5 L_law_jump_is
noncomputable def F_law_is : List PV -> Out PV := ints5 L_law_is
theorem lf_law_is (c d s o i : Int) : F_law_is [.int c, .int d, .int s, .int o, .int i] = .ok (.bool (L_law_is c d s o i)) := rfl
theorem is_rest (c md wb g d s o i : Int) : (exB (run (GL [("_law_deed_is", F_law_deed_is), ("_law_jump_is", F_law_jump_is)]) 11) (fScope d_law_is.1) (fBody d_law_is.1).tail [("group", .int g), ("wide_bits", .int wb), ("mode", .int md), ("whole", .int i), ("away", .int o), ("back", .int s), ("goal", .int d), ("kind", .int c)]).bind toRet = .ok (.bool (LI c md wb g d s o i)) := by
  unfold LI
  exact (rd_ifb (by kernel_rfl) (by kernel_rfl) (rd_ifb (by kernel_rfl) (by kernel_rfl) (rd_ifb (by kernel_rfl) (by kernel_rfl) (rd_ifb (by kernel_rfl) (by kernel_rfl) (rd_ifb (by kernel_rfl) (by kernel_rfl) (rd_ifb (by kernel_rfl) (by kernel_rfl) (rd_ifb (by kernel_rfl) (by kernel_rfl) (rd_asg (σ' := [("deeds", .tuple [.int 0, .int 1, .int 64, .int 65, .int 80, .int 81, .int 160, .int 161, .int 225, .int 241]), ("group", .int g), ("wide_bits", .int wb), ("mode", .int md), ("whole", .int i), ("away", .int o), ("back", .int s), ("goal", .int d), ("kind", .int c)]) (by kernel_rfl) (rd_ret (by kernel_rfl))))))))))
theorem rd_law_is (c d s o i : Int) : fnP (GL [("_law_deed_is", F_law_deed_is), ("_law_jump_is", F_law_jump_is)]) 12 (fScope d_law_is.1) [Str.ofString "kind", Str.ofString "goal", Str.ofString "back", Str.ofString "away", Str.ofString "whole"] (fBody d_law_is.1) [.int c, .int d, .int s, .int o, .int i] = .ok (.bool (L_law_is c d s o i)) := fn_rd rfl (rd_asg (σ' := [("group", .int (c.fmod 8)), ("wide_bits", .int ((c.fdiv 8).fmod 4)), ("mode", .int (c.fdiv 32)), ("whole", .int i), ("away", .int o), ("back", .int s), ("goal", .int d), ("kind", .int c)]) (by kernel_rfl) (is_rest ..))
inductive BF where
  | c (b : Bool)
  | v (n : Nat)
  | not (x : BF)
  | ite (x y z : BF)
noncomputable def BF.eval (ρ : Nat -> Bool) (f : BF) : Bool := BF.rec (motive := fun _ => Bool) (fun b => b) (fun n => ρ n) (fun _ x => !x) (fun _ _ _ x y z => cond x y z) f
noncomputable def mkIte (x y z : BF) : BF := match x with
  | .c b => if b = true then y else z
  | x => .ite x y z
noncomputable def mkNot (x : BF) : BF := match x with
  | .c b => .c (!b)
  | x => .not x
noncomputable def BF.sub (n : Nat) (b : Bool) (f : BF) : BF := BF.rec (motive := fun _ => BF) (fun b => .c b) (fun m => if Nat.beq m n = true then .c b else .v m) (fun _ x => mkNot x) (fun _ _ _ x y z => mkIte x y z) f
noncomputable def BF.pick (f : BF) : Nat := BF.rec (motive := fun _ => Nat) (fun _ => 0) (fun n => n) (fun _ x => x) (fun _ _ _ x _ _ => x) f
noncomputable def BF.holds : Nat -> BF -> Bool
  | 0, f => (match f with
    | .c b => b
    | _ => false)
  | k + 1, f => (match f with
    | .c b => b
    | f => (f.sub f.pick true).holds k && (f.sub f.pick false).holds k)
section
variable {ρ : Nat -> Bool}
theorem eval_mkIte (x y z : BF) : (mkIte x y z).eval ρ = cond (x.eval ρ) (y.eval ρ) (z.eval ρ) := by
  cases x with
  | c b => cases b <;> rfl
  | _ => rfl
theorem eval_mkNot (x : BF) : (mkNot x).eval ρ = !x.eval ρ := by
  cases x with
  | c b => rfl
  | _ => rfl
theorem eval_sub {n : Nat} {b : Bool} (h : ρ n = b) : ∀ f : BF, (f.sub n b).eval ρ = f.eval ρ
  | .c _ => rfl
  | .v m => by
    show (if Nat.beq m n = true then BF.c b else .v m).eval ρ = ρ m
    cases q : Nat.beq m n with
    | true => rw [Nat.eq_of_beq_eq_true q, h]; rfl
    | false => rfl
  | .not x => by
    show (mkNot (x.sub n b)).eval ρ = !x.eval ρ
    rw [eval_mkNot, eval_sub h x]
  | .ite x y z => by
    show (mkIte (x.sub n b) (y.sub n b) (z.sub n b)).eval ρ = cond (x.eval ρ) (y.eval ρ) (z.eval ρ)
    rw [eval_mkIte, eval_sub h x, eval_sub h y, eval_sub h z]
theorem holds_eval : ∀ (k : Nat) (f : BF), f.holds k = true -> f.eval ρ = true
  | 0, f, h => by
    cases f with
    | c b => exact h
    | _ => cases h
  | k + 1, f, h => by
    have step : ∀ g : BF, ((g.sub g.pick true).holds k && (g.sub g.pick false).holds k) = true -> g.eval ρ = true := fun g h => by
      rw [Bool.and_eq_true] at h
      cases q : ρ g.pick with
      | true => rw [<- eval_sub q g]; exact holds_eval k _ h.1
      | false => rw [<- eval_sub q g]; exact holds_eval k _ h.2
    cases f with
    | c b => exact h
    | v n => exact step _ h
    | not x => exact step _ h
    | ite x y z => exact step _ h
end
noncomputable abbrev fAnd (x y : BF) : BF := .ite x y (.c false)
noncomputable abbrev fOr (x y : BF) : BF := .ite x (.c true) y
noncomputable def same (f g : BF) : Bool := BF.holds 40 ((BF.ite f g (.not g)).sub 99 true)
theorem same_ok {f g : BF} (h : same f g = true) {ρ : Nat -> Bool} (h99 : ρ 99 = true) : f.eval ρ = g.eval ρ := by
  have h1 := holds_eval (ρ := ρ) 40 _ h
  rw [eval_sub h99] at h1
  have h2 : cond (f.eval ρ) (g.eval ρ) (!g.eval ρ) = true := h1
  cases q : f.eval ρ with
  | true => rw [q] at h2; exact h2.symm
  | false =>
    rw [q] at h2
    cases r : g.eval ρ with
    | true => rw [r] at h2; cases h2
    | false => rfl
noncomputable def env (l : List Bool) (n : Nat) : Bool := if Nat.beq n 99 = true then true else l.getD n false
theorem ite_cond (c a b : Bool) : (if c = true then a else b) = cond c a b := by cases c <;> rfl
theorem fde (x : Int) {k : Int} (h : 0 <= k) : Int.fdiv x k = x / k := Int.fdiv_eq_ediv_of_nonneg _ h
theorem fme (x : Int) {k : Int} (h : 0 <= k) : Int.fmod x k = x % k := Int.fmod_eq_emod_of_nonneg _ h
theorem a_any (l : List Int) (x : Int) : (l.any fun y => y == x) = (l.any fun y => x == y) := by
  congr 1; funext y
  rw [Bool.eq_iff_iff, beq_iff_eq, beq_iff_eq]; exact eq_comm
theorem by_eq {f g : Int -> Bool} (h : allBytes (fun c => f c == g c) = true) {c : Int} (hc : 0 <= c /\ c < 256) : f c = g c := eq_of_beq (byte_all h hc.1 hc.2)
theorem q_alu {c : Int} (hc : 0 <= c /\ c < 256) : (isAlu c) = ((c % 8 == 4 || c % 8 == 7)) := by_eq (f := fun c => isAlu c) (g := fun c => (c % 8 == 4 || c % 8 == 7)) (by kernel_rfl) hc
theorem q_jmp {c : Int} (hc : 0 <= c /\ c < 256) : (isJmp c) = ((c % 8 == 5 || c % 8 == 6)) := by_eq (f := fun c => isJmp c) (g := fun c => (c % 8 == 5 || c % 8 == 6)) (by kernel_rfl) hc
theorem q_reg {c : Int} (hc : 0 <= c /\ c < 256) : (isReg c) = ((c / 8 % 2 == 1)) := by_eq (f := fun c => isReg c) (g := fun c => (c / 8 % 2 == 1)) (by kernel_rfl) hc
theorem q_b7 {c : Int} (hc : 0 <= c /\ c < 256) : (Builtin.bitAnd c 7 == 7) = ((c % 8 == 7)) := by_eq (f := fun c => Builtin.bitAnd c 7 == 7) (g := fun c => (c % 8 == 7)) (by kernel_rfl) hc
theorem q_g0 {c : Int} (hc : 0 <= c /\ c < 256) : (Builtin.bitAnd c 7 == 0) = ((c % 8 == 0)) := by_eq (f := fun c => Builtin.bitAnd c 7 == 0) (g := fun c => (c % 8 == 0)) (by kernel_rfl) hc
theorem q_g1 {c : Int} (hc : 0 <= c /\ c < 256) : (Builtin.bitAnd c 7 == 1) = ((c % 8 == 1)) := by_eq (f := fun c => Builtin.bitAnd c 7 == 1) (g := fun c => (c % 8 == 1)) (by kernel_rfl) hc
theorem q_g2 {c : Int} (hc : 0 <= c /\ c < 256) : (Builtin.bitAnd c 7 == 2) = ((c % 8 == 2)) := by_eq (f := fun c => Builtin.bitAnd c 7 == 2) (g := fun c => (c % 8 == 2)) (by kernel_rfl) hc
theorem q_g3 {c : Int} (hc : 0 <= c /\ c < 256) : (Builtin.bitAnd c 7 == 3) = ((c % 8 == 3)) := by_eq (f := fun c => Builtin.bitAnd c 7 == 3) (g := fun c => (c % 8 == 3)) (by kernel_rfl) hc
theorem q_none {c : Int} (hc : 0 <= c /\ c < 256) : (opP c != Str.ofString "") = ((((c % 8 == 4 || c % 8 == 7) || (c % 8 == 5 || c % 8 == 6)) && decide (c / 16 < 14))) := by_eq (f := fun c => opP c != Str.ofString "") (g := fun c => (((c % 8 == 4 || c % 8 == 7) || (c % 8 == 5 || c % 8 == 6)) && decide (c / 16 < 14))) (by kernel_rfl) hc
theorem q_end {c : Int} (hc : 0 <= c /\ c < 256) : (opP c == Str.ofString "end") = (((c % 8 == 4 || c % 8 == 7) && c / 16 == 13)) := by_eq (f := fun c => opP c == Str.ofString "end") (g := fun c => ((c % 8 == 4 || c % 8 == 7) && c / 16 == 13)) (by kernel_rfl) hc
theorem q_neg {c : Int} (hc : 0 <= c /\ c < 256) : (opP c == Str.ofString "neg") = (((c % 8 == 4 || c % 8 == 7) && c / 16 == 8)) := by_eq (f := fun c => opP c == Str.ofString "neg") (g := fun c => ((c % 8 == 4 || c % 8 == 7) && c / 16 == 8)) (by kernel_rfl) hc
theorem q_div {c : Int} (hc : 0 <= c /\ c < 256) : (opP c == Str.ofString "div") = (((c % 8 == 4 || c % 8 == 7) && c / 16 == 3)) := by_eq (f := fun c => opP c == Str.ofString "div") (g := fun c => ((c % 8 == 4 || c % 8 == 7) && c / 16 == 3)) (by kernel_rfl) hc
theorem q_mod {c : Int} (hc : 0 <= c /\ c < 256) : (opP c == Str.ofString "mod") = (((c % 8 == 4 || c % 8 == 7) && c / 16 == 9)) := by_eq (f := fun c => opP c == Str.ofString "mod") (g := fun c => ((c % 8 == 4 || c % 8 == 7) && c / 16 == 9)) (by kernel_rfl) hc
theorem q_mov {c : Int} (hc : 0 <= c /\ c < 256) : (opP c == Str.ofString "mov") = (((c % 8 == 4 || c % 8 == 7) && c / 16 == 11)) := by_eq (f := fun c => opP c == Str.ofString "mov") (g := fun c => ((c % 8 == 4 || c % 8 == 7) && c / 16 == 11)) (by kernel_rfl) hc
theorem q_lsh {c : Int} (hc : 0 <= c /\ c < 256) : (opP c == Str.ofString "lsh") = (((c % 8 == 4 || c % 8 == 7) && c / 16 == 6)) := by_eq (f := fun c => opP c == Str.ofString "lsh") (g := fun c => ((c % 8 == 4 || c % 8 == 7) && c / 16 == 6)) (by kernel_rfl) hc
theorem q_rsh {c : Int} (hc : 0 <= c /\ c < 256) : (opP c == Str.ofString "rsh") = (((c % 8 == 4 || c % 8 == 7) && c / 16 == 7)) := by_eq (f := fun c => opP c == Str.ofString "rsh") (g := fun c => ((c % 8 == 4 || c % 8 == 7) && c / 16 == 7)) (by kernel_rfl) hc
theorem q_arsh {c : Int} (hc : 0 <= c /\ c < 256) : (opP c == Str.ofString "arsh") = (((c % 8 == 4 || c % 8 == 7) && c / 16 == 12)) := by_eq (f := fun c => opP c == Str.ofString "arsh") (g := fun c => ((c % 8 == 4 || c % 8 == 7) && c / 16 == 12)) (by kernel_rfl) hc
theorem q_call {c : Int} (hc : 0 <= c /\ c < 256) : (opP c == Str.ofString "call") = (((c % 8 == 5 || c % 8 == 6) && c / 16 == 8)) := by_eq (f := fun c => opP c == Str.ofString "call") (g := fun c => ((c % 8 == 5 || c % 8 == 6) && c / 16 == 8)) (by kernel_rfl) hc
theorem q_exit {c : Int} (hc : 0 <= c /\ c < 256) : (opP c == Str.ofString "exit") = (((c % 8 == 5 || c % 8 == 6) && c / 16 == 9)) := by_eq (f := fun c => opP c == Str.ofString "exit") (g := fun c => ((c % 8 == 5 || c % 8 == 6) && c / 16 == 9)) (by kernel_rfl) hc
theorem q_jump {c : Int} (hc : 0 <= c /\ c < 256) : (isJump c) = (((c % 8 == 5 || c % 8 == 6) && c / 16 == 0)) := by_eq (f := fun c => isJump c) (g := fun c => ((c % 8 == 5 || c % 8 == 6) && c / 16 == 0)) (by kernel_rfl) hc
theorem q_mem {c : Int} (hc : 0 <= c /\ c < 256) : (modeP c == Str.ofString "mem") = ((c / 32 == 3)) := by_eq (f := fun c => modeP c == Str.ofString "mem") (g := fun c => (c / 32 == 3)) (by kernel_rfl) hc
theorem q_memsx {c : Int} (hc : 0 <= c /\ c < 256) : (modeP c == Str.ofString "memsx") = ((c / 32 == 4)) := by_eq (f := fun c => modeP c == Str.ofString "memsx") (g := fun c => (c / 32 == 4)) (by kernel_rfl) hc
theorem q_atomic {c : Int} (hc : 0 <= c /\ c < 256) : (modeP c == Str.ofString "atomic") = ((c / 32 == 6)) := by_eq (f := fun c => modeP c == Str.ofString "atomic") (g := fun c => (c / 32 == 6)) (by kernel_rfl) hc
theorem q_w8 {c : Int} (hc : 0 <= c /\ c < 256) : (widthP c == 8) = ((c / 8 % 4 == 3)) := by_eq (f := fun c => widthP c == 8) (g := fun c => (c / 8 % 4 == 3)) (by kernel_rfl) hc
theorem q_w4 {c : Int} (hc : 0 <= c /\ c < 256) : (widthP c == 4) = ((c / 8 % 4 == 0)) := by_eq (f := fun c => widthP c == 4) (g := fun c => (c / 8 % 4 == 0)) (by kernel_rfl) hc
theorem q_133 {c : Int} (hc : 0 <= c /\ c < 256) : (c == 133) = ((c % 8 == 5 && (c / 16 == 8 && !(c / 8 % 2 == 1)))) := by_eq (f := fun c => c == 133) (g := fun c => (c % 8 == 5 && (c / 16 == 8 && !(c / 8 % 2 == 1)))) (by kernel_rfl) hc
theorem q_149 {c : Int} (hc : 0 <= c /\ c < 256) : (c == 149) = ((c % 8 == 5 && (c / 16 == 9 && !(c / 8 % 2 == 1)))) := by_eq (f := fun c => c == 149) (g := fun c => (c % 8 == 5 && (c / 16 == 9 && !(c / 8 % 2 == 1)))) (by kernel_rfl) hc
theorem q_6 {c : Int} (hc : 0 <= c /\ c < 256) : (c == 6) = ((c % 8 == 6 && (c / 16 == 0 && !(c / 8 % 2 == 1)))) := by_eq (f := fun c => c == 6) (g := fun c => (c % 8 == 6 && (c / 16 == 0 && !(c / 8 % 2 == 1)))) (by kernel_rfl) hc
theorem q_24 {c : Int} (hc : 0 <= c /\ c < 256) : (c == 24) = ((c % 8 == 0 && (c / 32 == 0 && c / 8 % 4 == 3))) := by_eq (f := fun c => c == 24) (g := fun c => (c % 8 == 0 && (c / 32 == 0 && c / 8 % 4 == 3))) (by kernel_rfl) hc
theorem q_sz {c : Int} (hc : 0 <= c /\ c < 256) (h : (c % 8 == 4 || c % 8 == 7) = true) : sizeP c = if (c % 8 == 7) = true then 64 else 32 := by
  have e := by_eq (f := fun c => !(c % 8 == 4 || c % 8 == 7) || sizeP c == (if (c % 8 == 7) = true then 64 else 32)) (g := fun _ => true) (by kernel_rfl) hc
  have e : (!(c % 8 == 4 || c % 8 == 7) || sizeP c == (if (c % 8 == 7) = true then 64 else 32)) = true := e
  rw [h] at e
  exact eq_of_beq e
noncomputable def all16 (f : Int -> Bool -> Bool -> Bool) : Bool := (List.range 16).all fun k => f (k : Nat) true true && (f (k : Nat) true false && (f (k : Nat) false true && f (k : Nat) false false))
theorem all16_at {f : Int -> Bool -> Bool -> Bool} (h : all16 f = true) {q : Int} (h0 : 0 <= q) (h1 : q < 16) (R S : Bool) : f q R S = true := by
  have := List.all_eq_true.mp h q.toNat (List.mem_range.mpr (by omega))
  rw [show ((q.toNat : Nat) : Int) = q by omega] at this
  simp only [Bool.and_eq_true] at this
  cases R <;> cases S
  · exact this.2.2.2
  · exact this.2.2.1
  · exact this.2.1
  · exact this.1
noncomputable def fa (q : Int) (R S : Bool) : BF := (fAnd (.c (decide (q < 14))) (.ite (.c (q == 13)) (fAnd (fAnd (fAnd (.v 0) (.v 1)) (fAnd (fOr (.v 3) (fOr (.v 4) (.v 5))) (fOr (.not (.c S)) (.not (.c R))))) (.c true)) (.ite (.c (q == 8)) (fAnd (.not (.c R)) (fAnd (fAnd (.v 0) (fAnd (.v 1) (.v 2))) (.c true))) (fAnd (.ite (.c R) (.v 2) (fAnd (.v 0) (fAnd (.ite (fOr (.c (q == 6)) (fOr (.c (q == 7)) (.c (q == 12)))) (.v 6) (.c true)) (.ite (fOr (.c (q == 3)) (.c (q == 9))) (.not (.v 2)) (.c true))))) (.ite (fOr (.c (q == 3)) (.c (q == 9))) (fOr (.v 1) (.v 7)) (.ite (fAnd (.c (q == 11)) (.c R)) (fOr (fOr (.v 1) (fOr (.v 8) (.v 9))) (fAnd (.v 10) (.c S))) (.v 1)))))))
noncomputable def ga (q : Int) (R S : Bool) : BF := (.ite (.c (decide (13 < q))) (.c false) (.ite (.c (q == 13)) (fAnd (.v 0) (fAnd (.v 1) (fAnd (fOr (.v 3) (fOr (.v 4) (fOr (.v 5) (.c false)))) (.not (fAnd (.c S) (.c R)))))) (.ite (.c (q == 8)) (fAnd (.not (.c R)) (fAnd (.v 0) (fAnd (.v 1) (.v 2)))) (.ite (fOr (fAnd (.c R) (.not (.v 2))) (fAnd (.not (.c R)) (.not (.v 0)))) (.c false) (.ite (fAnd (.not (.c R)) (fAnd (fOr (.c (q == 6)) (fOr (.c (q == 7)) (fOr (.c (q == 12)) (.c false)))) (.not (.v 6)))) (.c false) (.ite (fAnd (.not (.c R)) (fAnd (fOr (.c (q == 3)) (fOr (.c (q == 9)) (.c false))) (.v 2))) (.c false) (.ite (fOr (.c (q == 3)) (fOr (.c (q == 9)) (.c false))) (fOr (.v 1) (fOr (.v 7) (.c false))) (.ite (fAnd (.c (q == 11)) (.c R)) (fOr (fOr (.v 1) (fOr (.v 8) (fOr (.v 9) (.c false)))) (fAnd (.v 10) (.c S))) (.v 1)))))))))
theorem alu_dec : all16 (fun q R S => same (fa q R S) (ga q R S)) = true := by kernel_rfl
theorem alu_same {c : Int} (hc : 0 <= c /\ c < 256) (h : (c % 8 == 4 || c % 8 == 7) = true) (d s o i m : Int) : B_check_alu c d s o i m = L_law_deed_is c s o i := by
  have h16 : 0 <= c / 16 /\ c / 16 < 16 := by omega
  have e64 : (sizeP c == 64) = (c % 8 == 7) := by
    rw [q_sz hc h]
    cases (c % 8 == 7) <;> rfl
  have hj : (c % 8 == 5 || c % 8 == 6) = false := by
    simp only [Bool.or_eq_true, beq_iff_eq] at h
    simp only [Bool.or_eq_false_iff, beq_eq_false_iff_ne]
    omega
  have eb : (Builtin.bitAnd c 7 != 7) = !(c % 8 == 7) := congrArg not (q_b7 hc)
  have l : B_check_alu c d s o i m = (fa (c / 16) (c / 8 % 2 == 1) (c % 8 == 7)).eval (env [s == 0, o == 0, i == 0, i == 16, i == 32, i == 64, decide (0 <= i) && decide (i < if (c % 8 == 7) = true then 64 else 32), o == 1, o == 8, o == 16, o == 32]) := by
    unfold B_check_alu B_check_end B_check_number B_check_extension
    rw [q_none hc, q_end hc, q_neg hc, q_div hc, q_mod hc, q_mov hc, q_lsh hc, q_rsh hc, q_arsh hc, q_reg hc, e64, eb, q_sz hc h, h]
    kernel_rfl
  have r : L_law_deed_is c s o i = (ga (c / 16) (c / 8 % 2 == 1) (c % 8 == 7)).eval (env [s == 0, o == 0, i == 0, i == 16, i == 32, i == 64, decide (0 <= i) && decide (i < if (c % 8 == 7) = true then 64 else 32), o == 1, o == 8, o == 16, o == 32]) := by
    unfold L_law_deed_is LD
    rw [fde _ (by decide), fde _ (by decide), fme _ (by decide), fme _ (by decide)]
    simp only [a_any, ite_cond]
    kernel_rfl
  rw [l, r]
  exact same_ok (all16_at alu_dec h16.1 h16.2 _ _) rfl
noncomputable def fj (q : Int) (R S : Bool) : BF := (fAnd (.c (decide (q < 14))) (.ite (.c (q == 0)) (fAnd (.not (.c R)) (fAnd (fAnd (.v 0) (.v 1)) (.ite (fAnd (.c S) (fAnd (.c (q == 0)) (.not (.c R)))) (.v 3) (.v 4)))) (.ite (.c (q == 8)) (fAnd (fAnd (.not (.c S)) (fAnd (.c (q == 8)) (.not (.c R)))) (fAnd (fAnd (.v 0) (.v 3)) (fOr (.v 1) (.v 2)))) (.ite (.c (q == 9)) (fAnd (fAnd (.not (.c S)) (fAnd (.c (q == 9)) (.not (.c R)))) (fAnd (.v 0) (fAnd (.v 1) (fAnd (.v 3) (.v 4))))) (.ite (.c R) (fAnd (fAnd (.not (.c (q == 0))) (fAnd (.not (fAnd (.not (.c S)) (fAnd (.c (q == 8)) (.not (.c R))))) (.not (fAnd (.not (.c S)) (fAnd (.c (q == 9)) (.not (.c R))))))) (.v 4)) (fAnd (fAnd (.not (.c (q == 0))) (fAnd (.not (fAnd (.not (.c S)) (fAnd (.c (q == 8)) (.not (.c R))))) (.not (fAnd (.not (.c S)) (fAnd (.c (q == 9)) (.not (.c R))))))) (.v 1)))))))
noncomputable def gj (q : Int) (R S : Bool) : BF := (.ite (.c (decide (13 < q))) (.c false) (.ite (.c (q == 0)) (fAnd (.not (.c R)) (fAnd (.v 0) (fAnd (.v 1) (.ite (.not (.c S)) (.v 4) (.v 3))))) (.ite (.c (q == 8)) (fAnd (fAnd (.not (.c S)) (fAnd (.c (q == 8)) (.not (.c R)))) (fAnd (.v 0) (fAnd (.v 3) (fOr (.v 1) (fOr (.v 2) (.c false)))))) (.ite (.c (q == 9)) (fAnd (fAnd (.not (.c S)) (fAnd (.c (q == 9)) (.not (.c R)))) (fAnd (.v 0) (fAnd (.v 1) (fAnd (.v 3) (.v 4))))) (.ite (.c R) (.v 4) (.v 1))))))
theorem jump_dec : all16 (fun q R S => same (fj q R S) (gj q R S)) = true := by kernel_rfl
theorem ite_eq0 (b : Bool) (x y : Int) : ((if b = true then x else y) == 0) = cond b (x == 0) (y == 0) := by cases b <;> rfl
theorem jump_same {c : Int} (hc : 0 <= c /\ c < 256) (h : (c % 8 == 5 || c % 8 == 6) = true) (d s o i m : Int) : B_check_jumping c d s o i m = L_law_jump_is c d s o i := by
  have h16 : 0 <= c / 16 /\ c / 16 < 16 := by omega
  have h5 : (c % 8 == 5) = !(c % 8 == 6) := by
    simp only [Bool.or_eq_true, beq_iff_eq] at h
    rcases h with h | h <;> rw [h] <;> rfl
  have l : B_check_jumping c d s o i m = (fj (c / 16) (c / 8 % 2 == 1) (c % 8 == 6)).eval (env [d == 0, s == 0, s == 1, o == 0, i == 0]) := by
    unfold B_check_jumping B_check_jump isBranch
    rw [q_none hc, q_call hc, q_exit hc, q_jmp hc, q_jump hc, q_reg hc, q_133 hc, q_149 hc, q_6 hc, h, h5, Bool.or_true]
    kernel_rfl
  have r : L_law_jump_is c d s o i = (gj (c / 16) (c / 8 % 2 == 1) (c % 8 == 6)).eval (env [d == 0, s == 0, s == 1, o == 0, i == 0]) := by
    unfold L_law_jump_is LJ
    rw [fde _ (by decide), fde _ (by decide), fme _ (by decide), fme _ (by decide), q_133 hc, q_149 hc, h5, ite_eq0]
    simp only [a_any, ite_cond]
    kernel_rfl
  rw [l, r]
  exact same_ok (all16_at jump_dec h16.1 h16.2 _ _) rfl
theorem bn1 : Builtin.bitNot 1 = -2 := by decide
theorem ne_ite (c : Bool) (x y e : Str) : ((if c = true then x else y) != e) = cond c (x != e) (y != e) := by cases c <;> rfl
theorem fetch_ne (i : Int) {x y : Str} (hx : (x != Str.ofString "") = true) (hy : (y != Str.ofString "") = true) : (fetchS i x y != Str.ofString "") = true := by
  unfold fetchS
  rw [ne_ite, hx, hy]
  cases (Builtin.bitAnd i 1 != 0) <;> rfl
theorem iteB_congr {c a a' b : Bool} (h : c = true -> a = a') : iteB c a b = iteB c a' b := by
  cases c with
  | true => rw [h rfl]
  | false => rfl
theorem p_even (i e : Int) (h : e % 2 = 0) : (i - i % 2 == e) = (e == i || e + 1 == i) := by
  rw [Bool.eq_iff_iff, Bool.or_eq_true, beq_iff_eq, beq_iff_eq, beq_iff_eq]
  omega
theorem at_num (i p : Int) (hp : p = i - i % 2) : cond (i == 225) true (cond (i == 241) true (cond (p == 0) true (cond (p == 64) true (cond (p == 80) true (cond (p == 160) true false))))) = (([0, 1, 64, 65, 80, 81, 160, 161, 225, 241] : List Int).any fun y => y == i) := by
  rw [hp, p_even i 0 rfl, p_even i 64 rfl, p_even i 80 rfl, p_even i 160 rfl, show (i == 225) = (225 == i) from BEq.comm, show (i == 241) = (241 == i) from BEq.comm]
  simp only [Bool.cond_true_left, List.any_cons, List.any_nil]
  rw [show ∀ a b r : Bool, (a || (b || r)) = (r || (a || b)) by decide]
  simp only [Bool.or_assoc, Bool.or_false, Int.reduceAdd, Bool.false_or]
theorem atom_same (i : Int) : (atomS i != Str.ofString "") = (([0, 1, 64, 65, 80, 81, 160, 161, 225, 241] : List Int).any fun y => y == i) := by
  rw [<- at_num i (Builtin.bitAnd i (Builtin.bitNot 1)) (by rw [bn1, bitAnd_even])]
  unfold atomS
  rw [ne_ite, ne_ite, ne_ite, ne_ite, ne_ite, ne_ite, fetch_ne i (by kernel_rfl) (by kernel_rfl), fetch_ne i (by kernel_rfl) (by kernel_rfl), fetch_ne i (by kernel_rfl) (by kernel_rfl), fetch_ne i (by kernel_rfl) (by kernel_rfl), show (Str.ofString "xchg" != Str.ofString "") = true by kernel_rfl, show (Str.ofString "cmpxchg" != Str.ofString "") = true by kernel_rfl, show (Str.ofString "" != Str.ofString "") = false by kernel_rfl]
theorem le_not (d : Int) : decide (10 < d) = !decide (d <= 10) := by
  by_cases h : d <= 10
  · rw [decide_eq_true h, decide_eq_false (by omega)]; rfl
  · rw [decide_eq_false h, decide_eq_true (by omega)]; rfl
noncomputable def fo (c : Int) : BF := (fAnd (fAnd (fAnd (.v 2) (.v 3)) (fOr (.v 6) (.c (c % 8 == 0 && (c / 32 == 0 && c / 8 % 4 == 3))))) (.ite (.c (c % 8 == 4 || c % 8 == 7)) (.v 0) (.ite (.c (c % 8 == 5 || c % 8 == 6)) (.v 1) (.ite (.c (c % 8 == 0)) (fAnd (.c (c % 8 == 0 && (c / 32 == 0 && c / 8 % 4 == 3))) (fAnd (fOr (.v 4) (.v 5)) (fAnd (fOr (.v 4) (.v 6)) (.v 8)))) (.ite (.c (c % 8 == 1)) (fAnd (fOr (.c (c / 32 == 3)) (.c (c / 32 == 4))) (fAnd (fOr (.c (c / 32 == 3)) (.not (.c (c / 8 % 4 == 3)))) (.v 7))) (.ite (.c (c % 8 == 2)) (fAnd (.c (c / 32 == 3)) (.v 4)) (.ite (.c (c % 8 == 3)) (fAnd (fOr (.c (c / 32 == 3)) (.c (c / 32 == 6))) (.ite (.c (c / 32 == 3)) (fAnd (.v 7) (.c true)) (fAnd (fOr (.c (c / 8 % 4 == 0)) (.c (c / 8 % 4 == 3))) (.v 9)))) (.c true))))))))
noncomputable def go (c : Int) : BF := (fAnd (fAnd (.ite (fOr (.not (.v 2)) (.not (.v 3))) (.c false) (.ite (.c (c % 8 == 4 || c % 8 == 7)) (.v 0) (.ite (.c (c % 8 == 5 || c % 8 == 6)) (.v 1) (.ite (.c (c % 8 == 0)) (fAnd (.c (c % 8 == 0 && (c / 32 == 0 && c / 8 % 4 == 3))) (fAnd (fOr (.v 4) (fOr (.v 5) (.c false))) (.v 8))) (.ite (.c (c % 8 == 1)) (fAnd (.v 7) (fOr (.c (c / 32 == 3)) (fAnd (.c (c / 32 == 4)) (.not (.c (c / 8 % 4 == 3)))))) (.ite (.c (c % 8 == 2)) (fAnd (.c (c / 32 == 3)) (.v 4)) (.ite (.c (c / 32 == 3)) (.v 7) (fAnd (.c (c / 32 == 6)) (fAnd (fOr (.c (c / 8 % 4 == 0)) (fOr (.c (c / 8 % 4 == 3)) (.c false))) (.v 9)))))))))) (fOr (.v 6) (.c (c % 8 == 0 && (c / 32 == 0 && c / 8 % 4 == 3))))) (fOr (fOr (.v 4) (.v 6)) (.not (.c (c % 8 == 0 && (c / 32 == 0 && c / 8 % 4 == 3))))))
theorem ord_dec : allBytes (fun c => same (fo c) (go c)) = true := by kernel_rfl
theorem check_same {c : Int} (hc : 0 <= c /\ c < 256) {d s o i m : Int} (hd : 0 <= d) (hs : 0 <= s) (ho : fits 16 o = true) (hi : fits 32 i = true) (hm : fits 32 m = true) :
    B_check_order c d s o i m = (L_law_is c d s o i && (m == 0 || c == 24) && (s == 0 || m == 0 || !(c == 24))) := by
  have l : B_check_order c d s o i m = (fo c).eval (env [L_law_deed_is c s o i, L_law_jump_is c d s o i, decide (d <= 10), decide (s <= 10), s == 0, s == 1, m == 0, i == 0, o == 0, ([0, 1, 64, 65, 80, 81, 160, 161, 225, 241] : List Int).any fun y => y == i]) := by
    unfold B_check_order B_check_fields B_check_load B_check_stx
    rw [q_alu hc, q_jmp hc, iteB_congr (fun h => alu_same hc h d s o i m), iteB_congr (fun h => jump_same hc h d s o i m), q_g0 hc, q_g1 hc, q_g2 hc, q_g3 hc, q_mem hc, q_memsx hc, q_atomic hc, q_24 hc, atom_same,
      decide_eq_true hc.1, decide_eq_true (show c <= 255 by omega), decide_eq_true hd, decide_eq_true hs, ho, hi, hm]
    have e8 : (widthP c != 8) = !(c / 8 % 4 == 3) := congrArg not (q_w8 hc)
    rw [e8, q_w8 hc, q_w4 hc]
    kernel_rfl
  have r : (L_law_is c d s o i && (m == 0 || c == 24) && (s == 0 || m == 0 || !(c == 24))) = (go c).eval (env [L_law_deed_is c s o i, L_law_jump_is c d s o i, decide (d <= 10), decide (s <= 10), s == 0, s == 1, m == 0, i == 0, o == 0, ([0, 1, 64, 65, 80, 81, 160, 161, 225, 241] : List Int).any fun y => y == i]) := by
    unfold L_law_is LI
    rw [fde _ (by decide), fde _ (by decide), fme _ (by decide), fme _ (by decide), q_24 hc, le_not, le_not]
    simp only [ite_cond]
    rw [a_any _ s, a_any _ (c / 8 % 4)]
    kernel_rfl
  rw [l, r]
  exact same_ok (byte_all ord_dec hc.1 hc.2) rfl
theorem bmod {x k : Int} (h : 0 < k) : binop .Mod (.int x) (.int k) = .ok (.int (x % k)) := by
  rw [bo_mod, if_neg (Int.ne_of_gt h), Int.fmod_eq_emod_of_nonneg _ (Int.le_of_lt h)]
theorem bdiv {x k : Int} (h : 0 < k) (h2 : k.natAbs.log2 < 8000) : binop .FloorDiv (.int x) (.int k) = .ok (.int (x / k)) := by
  rw [bo_div, if_neg (fun q => q.elim (Int.ne_of_gt h) (Nat.not_le.mpr h2)), Int.fdiv_eq_ediv_of_nonneg _ (Int.le_of_lt h)]
theorem band4 {x : Int} : binop .BitAnd (.int x) (.int 15) = .ok (.int (x % 16)) := congrArg (fun z => Out.ok (PV.int z)) (kbt_mask x 4)
theorem bshr4 {x : Int} : binop .RShift (.int x) (.int 4) = .ok (.int (x / 16)) := congrArg (fun z => Out.ok (PV.int z)) (Int.fdiv_eq_ediv_of_nonneg _ (by decide))
noncomputable def F_signed (ps : List PV) : Out PV := popInt ps fun w r => popInt r fun k r => onNil r (if k = 16 /\ 0 <= w /\ w < 65536 then .ok (.int (sgn 16 w)) else if k = 32 /\ 0 <= w /\ w < 4294967296 then .ok (.int (sgn 32 w)) else .stuck)
noncomputable def le2 (a b : UInt8) : Int := a.toNat + b.toNat * 256
noncomputable def le4 (a b c d : UInt8) : Int := a.toNat + b.toNat * 256 + c.toNat * 65536 + d.toNat * 16777216
noncomputable def F_from_little (ps : List PV) : Out PV := only ps fun v => onBytes v fun l => onCons l fun a r => onCons r fun b r => (match r with
  | [] => .ok (.int (le2 a b))
  | c :: r => only r fun d => .ok (.int (le4 a b c d)))
theorem le2_r (a b : UInt8) : 0 <= le2 a b /\ le2 a b < 65536 := by unfold le2; have := a.toNat_lt; have := b.toNat_lt; omega
theorem le4_r (a b c d : UInt8) : 0 <= le4 a b c d /\ le4 a b c d < 4294967296 := by unfold le4; have := a.toNat_lt; have := b.toNat_lt; have := c.toNat_lt; have := d.toNat_lt; omega
theorem fr2 (a b : UInt8) : F_from_little [.bytes [a, b]] = .ok (.int (le2 a b)) := rfl
theorem fr4 (a b c d : UInt8) : F_from_little [.bytes [a, b, c, d]] = .ok (.int (le4 a b c d)) := rfl
theorem F_signed_is (w k : Int) : F_signed [.int w, .int k] = if k = 16 /\ 0 <= w /\ w < 65536 then .ok (.int (sgn 16 w)) else if k = 32 /\ 0 <= w /\ w < 4294967296 then .ok (.int (sgn 32 w)) else .stuck := rfl
theorem sg16 (a b : UInt8) : F_signed [.int (le2 a b), .int 16] = .ok (.int (sgn 16 (le2 a b))) := by
  rw [F_signed_is, if_pos ⟨rfl, (le2_r a b).1, (le2_r a b).2⟩]
theorem sg32 (a b c d : UInt8) : F_signed [.int (le4 a b c d), .int 32] = .ok (.int (sgn 32 (le4 a b c d))) := by
  rw [F_signed_is, if_neg (fun h => absurd h.1 (by decide)), if_pos ⟨rfl, (le4_r a b c d).1, (le4_r a b c d).2⟩]
theorem rd_unpack_narrow_ok {Fln Ffl Fsg Fsh Fco : List PV -> Out PV} {bs x2 x4 : List UInt8} {L at0 w2 w4 off imm a0 a1 : Int} (hL : decide (8 <= L - at0) = true) (hl : Fln [.bytes bs] = .ok (.int L)) (i0 : itemP (.bytes bs) (.int at0) = .ok (.int a0)) (i1 : itemP (.bytes bs) (.int (at0 + 1)) = .ok (.int a1)) (s2 : sliceP (.bytes bs) (.int (at0 + 2)) (.int (at0 + 4)) = .ok (.bytes x2)) (f2 : Ffl [.bytes x2] = .ok (.int w2)) (g2 : Fsg [.int w2, .int 16] = .ok (.int off)) (s4 : sliceP (.bytes bs) (.int (at0 + 4)) (.int (at0 + 8)) = .ok (.bytes x4)) (f4 : Ffl [.bytes x4] = .ok (.int w4)) (g4 : Fsg [.int w4, .int 32] = .ok (.int imm)) (h24 : (a0 == 24) = false) {v : PV} (hk : Fco [.ord a0 (a1 % 16) (a1 / 16) off imm 0] = .ok v) : fnP (GL [("need", F_need), ("len", Fln), ("from_little", Ffl), ("signed", Fsg), ("Order", ordP), ("is_wide", FU fun c => .bool (c == 24)), ("second_half", Fsh), ("check_order", Fco)]) 12 (fScope d_unpack.1) [Str.ofString "octets", Str.ofString "at"] (fBody d_unpack.1) [.bytes bs, .int at0] = .ok (.tuple [v, .int (at0 + 8)]) :=
  fn_m (O := [(486018486040, fun _ => .ok (.int L)), (486018486066, fun _ => .ok (.bool true)), (488036488056, fun _ => .ok (.int a0)), (488060488088, fun _ => .ok (.int a1)), (490058490100, fun _ => .ok (.bytes x2)), (490034490102, fun _ => .ok (.int w2)), (490020490112, fun _ => .ok (.int off)), (492058492100, fun _ => .ok (.bytes x4)), (492034492102, fun _ => .ok (.int w4)), (492020492112, fun _ => .ok (.int imm)), (494060494078, fun _ => .ok (.int (a1 % 16))), (494082494100, fun _ => .ok (.int (a1 / 16))), (496014496042, fun _ => .ok (.bool false)), (502024502060, fun _ => .ok v)]) (cs := [Fln [.bytes bs] = .ok (.int L), Out.ok (PV.bool (decide (8 <= L - at0))) = .ok (.bool true), itemP (.bytes bs) (.int at0) = .ok (.int a0), itemP (.bytes bs) (.int (at0 + 1)) = .ok (.int a1), sliceP (.bytes bs) (.int (at0 + 2)) (.int (at0 + 4)) = .ok (.bytes x2), Ffl [.bytes x2] = .ok (.int w2), Fsg [.int w2, .int 16] = .ok (.int off), sliceP (.bytes bs) (.int (at0 + 4)) (.int (at0 + 8)) = .ok (.bytes x4), Ffl [.bytes x4] = .ok (.int w4), Fsg [.int w4, .int 32] = .ok (.int imm), binop .BitAnd (.int a1) (.int 15) = .ok (.int (a1 % 16)), binop .RShift (.int a1) (.int 4) = .ok (.int (a1 / 16)), Out.ok (PV.bool (a0 == 24)) = .ok (.bool false), Fco [.ord a0 (a1 % 16) (a1 / 16) off imm 0] = .ok v]) (by kernel_rfl) rfl okS ⟨hl, congrArg (fun b => Out.ok (PV.bool b)) hL, i0, i1, s2, f2, g2, s4, f4, g4, band4, bshr4, congrArg (fun b => Out.ok (PV.bool b)) h24, hk, trivial⟩
theorem rd_unpack_narrow_er {Fln Ffl Fsg Fsh Fco : List PV -> Out PV} {bs x2 x4 : List UInt8} {L at0 w2 w4 off imm a0 a1 : Int} (hL : decide (8 <= L - at0) = true) (hl : Fln [.bytes bs] = .ok (.int L)) (i0 : itemP (.bytes bs) (.int at0) = .ok (.int a0)) (i1 : itemP (.bytes bs) (.int (at0 + 1)) = .ok (.int a1)) (s2 : sliceP (.bytes bs) (.int (at0 + 2)) (.int (at0 + 4)) = .ok (.bytes x2)) (f2 : Ffl [.bytes x2] = .ok (.int w2)) (g2 : Fsg [.int w2, .int 16] = .ok (.int off)) (s4 : sliceP (.bytes bs) (.int (at0 + 4)) (.int (at0 + 8)) = .ok (.bytes x4)) (f4 : Ffl [.bytes x4] = .ok (.int w4)) (g4 : Fsg [.int w4, .int 32] = .ok (.int imm)) (h24 : (a0 == 24) = false) {v : PV} (hk : Fco [.ord a0 (a1 % 16) (a1 / 16) off imm 0] = .err v) : fnP (GL [("need", F_need), ("len", Fln), ("from_little", Ffl), ("signed", Fsg), ("Order", ordP), ("is_wide", FU fun c => .bool (c == 24)), ("second_half", Fsh), ("check_order", Fco)]) 12 (fScope d_unpack.1) [Str.ofString "octets", Str.ofString "at"] (fBody d_unpack.1) [.bytes bs, .int at0] = .err v :=
  fn_m (O := [(486018486040, fun _ => .ok (.int L)), (486018486066, fun _ => .ok (.bool true)), (488036488056, fun _ => .ok (.int a0)), (488060488088, fun _ => .ok (.int a1)), (490058490100, fun _ => .ok (.bytes x2)), (490034490102, fun _ => .ok (.int w2)), (490020490112, fun _ => .ok (.int off)), (492058492100, fun _ => .ok (.bytes x4)), (492034492102, fun _ => .ok (.int w4)), (492020492112, fun _ => .ok (.int imm)), (494060494078, fun _ => .ok (.int (a1 % 16))), (494082494100, fun _ => .ok (.int (a1 / 16))), (496014496042, fun _ => .ok (.bool false)), (502024502060, fun _ => .err v)]) (cs := [Fln [.bytes bs] = .ok (.int L), Out.ok (PV.bool (decide (8 <= L - at0))) = .ok (.bool true), itemP (.bytes bs) (.int at0) = .ok (.int a0), itemP (.bytes bs) (.int (at0 + 1)) = .ok (.int a1), sliceP (.bytes bs) (.int (at0 + 2)) (.int (at0 + 4)) = .ok (.bytes x2), Ffl [.bytes x2] = .ok (.int w2), Fsg [.int w2, .int 16] = .ok (.int off), sliceP (.bytes bs) (.int (at0 + 4)) (.int (at0 + 8)) = .ok (.bytes x4), Ffl [.bytes x4] = .ok (.int w4), Fsg [.int w4, .int 32] = .ok (.int imm), binop .BitAnd (.int a1) (.int 15) = .ok (.int (a1 % 16)), binop .RShift (.int a1) (.int 4) = .ok (.int (a1 / 16)), Out.ok (PV.bool (a0 == 24)) = .ok (.bool false), Fco [.ord a0 (a1 % 16) (a1 / 16) off imm 0] = .err v]) (by kernel_rfl) rfl erS ⟨hl, congrArg (fun b => Out.ok (PV.bool b)) hL, i0, i1, s2, f2, g2, s4, f4, g4, band4, bshr4, congrArg (fun b => Out.ok (PV.bool b)) h24, hk, trivial⟩
theorem rd_unpack_wide_ok {Fln Ffl Fsg Fsh Fco : List PV -> Out PV} {bs x2 x4 : List UInt8} {L at0 w2 w4 off imm a0 a1 : Int} (hL : decide (8 <= L - at0) = true) (hl : Fln [.bytes bs] = .ok (.int L)) (i0 : itemP (.bytes bs) (.int at0) = .ok (.int a0)) (i1 : itemP (.bytes bs) (.int (at0 + 1)) = .ok (.int a1)) (s2 : sliceP (.bytes bs) (.int (at0 + 2)) (.int (at0 + 4)) = .ok (.bytes x2)) (f2 : Ffl [.bytes x2] = .ok (.int w2)) (g2 : Fsg [.int w2, .int 16] = .ok (.int off)) (s4 : sliceP (.bytes bs) (.int (at0 + 4)) (.int (at0 + 8)) = .ok (.bytes x4)) (f4 : Ffl [.bytes x4] = .ok (.int w4)) (g4 : Fsg [.int w4, .int 32] = .ok (.int imm)) {more : Int} (h24 : (a0 == 24) = true) (hsh : Fsh [.bytes bs, .int (at0 + 8)] = .ok (.int more)) {v : PV} (hk : Fco [.ord a0 (a1 % 16) (a1 / 16) off imm more] = .ok v) : fnP (GL [("need", F_need), ("len", Fln), ("from_little", Ffl), ("signed", Fsg), ("Order", ordP), ("is_wide", FU fun c => .bool (c == 24)), ("second_half", Fsh), ("check_order", Fco)]) 12 (fScope d_unpack.1) [Str.ofString "octets", Str.ofString "at"] (fBody d_unpack.1) [.bytes bs, .int at0] = .ok (.tuple [v, .int (at0 + 8 + 8)]) :=
  fn_m (O := [(486018486040, fun _ => .ok (.int L)), (486018486066, fun _ => .ok (.bool true)), (488036488056, fun _ => .ok (.int a0)), (488060488088, fun _ => .ok (.int a1)), (490058490100, fun _ => .ok (.bytes x2)), (490034490102, fun _ => .ok (.int w2)), (490020490112, fun _ => .ok (.int off)), (492058492100, fun _ => .ok (.bytes x4)), (492034492102, fun _ => .ok (.int w4)), (492020492112, fun _ => .ok (.int imm)), (494060494078, fun _ => .ok (.int (a1 % 16))), (494082494100, fun _ => .ok (.int (a1 / 16))), (496014496042, fun _ => .ok (.bool true)), (498056498074, fun _ => .ok (.int (a1 % 16))), (498078498096, fun _ => .ok (.int (a1 / 16))), (498120498168, fun _ => .ok (.int more)), (502024502060, fun _ => .ok v)]) (cs := [Fln [.bytes bs] = .ok (.int L), Out.ok (PV.bool (decide (8 <= L - at0))) = .ok (.bool true), itemP (.bytes bs) (.int at0) = .ok (.int a0), itemP (.bytes bs) (.int (at0 + 1)) = .ok (.int a1), sliceP (.bytes bs) (.int (at0 + 2)) (.int (at0 + 4)) = .ok (.bytes x2), Ffl [.bytes x2] = .ok (.int w2), Fsg [.int w2, .int 16] = .ok (.int off), sliceP (.bytes bs) (.int (at0 + 4)) (.int (at0 + 8)) = .ok (.bytes x4), Ffl [.bytes x4] = .ok (.int w4), Fsg [.int w4, .int 32] = .ok (.int imm), binop .BitAnd (.int a1) (.int 15) = .ok (.int (a1 % 16)), binop .RShift (.int a1) (.int 4) = .ok (.int (a1 / 16)), Out.ok (PV.bool (a0 == 24)) = .ok (.bool true), binop .BitAnd (.int a1) (.int 15) = .ok (.int (a1 % 16)), binop .RShift (.int a1) (.int 4) = .ok (.int (a1 / 16)), Fsh [.bytes bs, .int (at0 + 8)] = .ok (.int more), Fco [.ord a0 (a1 % 16) (a1 / 16) off imm more] = .ok v]) (by kernel_rfl) rfl okS ⟨hl, congrArg (fun b => Out.ok (PV.bool b)) hL, i0, i1, s2, f2, g2, s4, f4, g4, band4, bshr4, congrArg (fun b => Out.ok (PV.bool b)) h24, band4, bshr4, hsh, hk, trivial⟩
theorem rd_unpack_wide_er {Fln Ffl Fsg Fsh Fco : List PV -> Out PV} {bs x2 x4 : List UInt8} {L at0 w2 w4 off imm a0 a1 : Int} (hL : decide (8 <= L - at0) = true) (hl : Fln [.bytes bs] = .ok (.int L)) (i0 : itemP (.bytes bs) (.int at0) = .ok (.int a0)) (i1 : itemP (.bytes bs) (.int (at0 + 1)) = .ok (.int a1)) (s2 : sliceP (.bytes bs) (.int (at0 + 2)) (.int (at0 + 4)) = .ok (.bytes x2)) (f2 : Ffl [.bytes x2] = .ok (.int w2)) (g2 : Fsg [.int w2, .int 16] = .ok (.int off)) (s4 : sliceP (.bytes bs) (.int (at0 + 4)) (.int (at0 + 8)) = .ok (.bytes x4)) (f4 : Ffl [.bytes x4] = .ok (.int w4)) (g4 : Fsg [.int w4, .int 32] = .ok (.int imm)) {more : Int} (h24 : (a0 == 24) = true) (hsh : Fsh [.bytes bs, .int (at0 + 8)] = .ok (.int more)) {v : PV} (hk : Fco [.ord a0 (a1 % 16) (a1 / 16) off imm more] = .err v) : fnP (GL [("need", F_need), ("len", Fln), ("from_little", Ffl), ("signed", Fsg), ("Order", ordP), ("is_wide", FU fun c => .bool (c == 24)), ("second_half", Fsh), ("check_order", Fco)]) 12 (fScope d_unpack.1) [Str.ofString "octets", Str.ofString "at"] (fBody d_unpack.1) [.bytes bs, .int at0] = .err v :=
  fn_m (O := [(486018486040, fun _ => .ok (.int L)), (486018486066, fun _ => .ok (.bool true)), (488036488056, fun _ => .ok (.int a0)), (488060488088, fun _ => .ok (.int a1)), (490058490100, fun _ => .ok (.bytes x2)), (490034490102, fun _ => .ok (.int w2)), (490020490112, fun _ => .ok (.int off)), (492058492100, fun _ => .ok (.bytes x4)), (492034492102, fun _ => .ok (.int w4)), (492020492112, fun _ => .ok (.int imm)), (494060494078, fun _ => .ok (.int (a1 % 16))), (494082494100, fun _ => .ok (.int (a1 / 16))), (496014496042, fun _ => .ok (.bool true)), (498056498074, fun _ => .ok (.int (a1 % 16))), (498078498096, fun _ => .ok (.int (a1 / 16))), (498120498168, fun _ => .ok (.int more)), (502024502060, fun _ => .err v)]) (cs := [Fln [.bytes bs] = .ok (.int L), Out.ok (PV.bool (decide (8 <= L - at0))) = .ok (.bool true), itemP (.bytes bs) (.int at0) = .ok (.int a0), itemP (.bytes bs) (.int (at0 + 1)) = .ok (.int a1), sliceP (.bytes bs) (.int (at0 + 2)) (.int (at0 + 4)) = .ok (.bytes x2), Ffl [.bytes x2] = .ok (.int w2), Fsg [.int w2, .int 16] = .ok (.int off), sliceP (.bytes bs) (.int (at0 + 4)) (.int (at0 + 8)) = .ok (.bytes x4), Ffl [.bytes x4] = .ok (.int w4), Fsg [.int w4, .int 32] = .ok (.int imm), binop .BitAnd (.int a1) (.int 15) = .ok (.int (a1 % 16)), binop .RShift (.int a1) (.int 4) = .ok (.int (a1 / 16)), Out.ok (PV.bool (a0 == 24)) = .ok (.bool true), binop .BitAnd (.int a1) (.int 15) = .ok (.int (a1 % 16)), binop .RShift (.int a1) (.int 4) = .ok (.int (a1 / 16)), Fsh [.bytes bs, .int (at0 + 8)] = .ok (.int more), Fco [.ord a0 (a1 % 16) (a1 / 16) off imm more] = .err v]) (by kernel_rfl) rfl erS ⟨hl, congrArg (fun b => Out.ok (PV.bool b)) hL, i0, i1, s2, f2, g2, s4, f4, g4, band4, bshr4, congrArg (fun b => Out.ok (PV.bool b)) h24, band4, bshr4, hsh, hk, trivial⟩
theorem rd_unpack_wide_err {Fln Ffl Fsg Fsh Fco : List PV -> Out PV} {bs x2 x4 : List UInt8} {L at0 w2 w4 off imm a0 a1 : Int} (hL : decide (8 <= L - at0) = true) (hl : Fln [.bytes bs] = .ok (.int L)) (i0 : itemP (.bytes bs) (.int at0) = .ok (.int a0)) (i1 : itemP (.bytes bs) (.int (at0 + 1)) = .ok (.int a1)) (s2 : sliceP (.bytes bs) (.int (at0 + 2)) (.int (at0 + 4)) = .ok (.bytes x2)) (f2 : Ffl [.bytes x2] = .ok (.int w2)) (g2 : Fsg [.int w2, .int 16] = .ok (.int off)) (s4 : sliceP (.bytes bs) (.int (at0 + 4)) (.int (at0 + 8)) = .ok (.bytes x4)) (f4 : Ffl [.bytes x4] = .ok (.int w4)) (g4 : Fsg [.int w4, .int 32] = .ok (.int imm)) {pe : PV} (h24 : (a0 == 24) = true) (hsh : Fsh [.bytes bs, .int (at0 + 8)] = .err pe) : fnP (GL [("need", F_need), ("len", Fln), ("from_little", Ffl), ("signed", Fsg), ("Order", ordP), ("is_wide", FU fun c => .bool (c == 24)), ("second_half", Fsh), ("check_order", Fco)]) 12 (fScope d_unpack.1) [Str.ofString "octets", Str.ofString "at"] (fBody d_unpack.1) [.bytes bs, .int at0] = .err pe :=
  fn_m (O := [(486018486040, fun _ => .ok (.int L)), (486018486066, fun _ => .ok (.bool true)), (488036488056, fun _ => .ok (.int a0)), (488060488088, fun _ => .ok (.int a1)), (490058490100, fun _ => .ok (.bytes x2)), (490034490102, fun _ => .ok (.int w2)), (490020490112, fun _ => .ok (.int off)), (492058492100, fun _ => .ok (.bytes x4)), (492034492102, fun _ => .ok (.int w4)), (492020492112, fun _ => .ok (.int imm)), (494060494078, fun _ => .ok (.int (a1 % 16))), (494082494100, fun _ => .ok (.int (a1 / 16))), (496014496042, fun _ => .ok (.bool true)), (498056498074, fun _ => .ok (.int (a1 % 16))), (498078498096, fun _ => .ok (.int (a1 / 16))), (498120498168, fun _ => .err pe)]) (cs := [Fln [.bytes bs] = .ok (.int L), Out.ok (PV.bool (decide (8 <= L - at0))) = .ok (.bool true), itemP (.bytes bs) (.int at0) = .ok (.int a0), itemP (.bytes bs) (.int (at0 + 1)) = .ok (.int a1), sliceP (.bytes bs) (.int (at0 + 2)) (.int (at0 + 4)) = .ok (.bytes x2), Ffl [.bytes x2] = .ok (.int w2), Fsg [.int w2, .int 16] = .ok (.int off), sliceP (.bytes bs) (.int (at0 + 4)) (.int (at0 + 8)) = .ok (.bytes x4), Ffl [.bytes x4] = .ok (.int w4), Fsg [.int w4, .int 32] = .ok (.int imm), binop .BitAnd (.int a1) (.int 15) = .ok (.int (a1 % 16)), binop .RShift (.int a1) (.int 4) = .ok (.int (a1 / 16)), Out.ok (PV.bool (a0 == 24)) = .ok (.bool true), binop .BitAnd (.int a1) (.int 15) = .ok (.int (a1 % 16)), binop .RShift (.int a1) (.int 4) = .ok (.int (a1 / 16)), Fsh [.bytes bs, .int (at0 + 8)] = .err pe]) (by kernel_rfl) rfl erS ⟨hl, congrArg (fun b => Out.ok (PV.bool b)) hL, i0, i1, s2, f2, g2, s4, f4, g4, band4, bshr4, congrArg (fun b => Out.ok (PV.bool b)) h24, band4, bshr4, hsh, trivial⟩
theorem rd_unpack_short {Fln Ffl Fsg Fsh Fco : List PV -> Out PV} {bs : List UInt8} {L at0 : Int} (hl : Fln [.bytes bs] = .ok (.int L)) (hL : decide (8 <= L - at0) = false) : fnP (GL [("need", F_need), ("len", Fln), ("from_little", Ffl), ("signed", Fsg), ("Order", ordP), ("is_wide", FU fun c => .bool (c == 24)), ("second_half", Fsh), ("check_order", Fco)]) 12 (fScope d_unpack.1) [Str.ofString "octets", Str.ofString "at"] (fBody d_unpack.1) [.bytes bs, .int at0] = .err .none :=
  fn_m (O := [(486018486040, fun _ => .ok (.int L)), (486018486066, fun _ => .ok (.bool false))]) (cs := [Fln [.bytes bs] = .ok (.int L), Out.ok (PV.bool (decide (8 <= L - at0))) = .ok (.bool false)]) (by kernel_rfl) rfl erS ⟨hl, congrArg (fun b => Out.ok (PV.bool b)) hL, trivial⟩
theorem rd_second_short {Fln Ffl Fsg : List PV -> Out PV} {bs : List UInt8} {L at0 : Int} (hl : Fln [.bytes bs] = .ok (.int L)) (hL : decide (8 <= L - at0) = false) : fnP (GL [("need", F_need), ("len", Fln), ("from_little", Ffl), ("signed", Fsg)]) 12 (fScope d_second_half.1) [Str.ofString "octets", Str.ofString "at"] (fBody d_second_half.1) [.bytes bs, .int at0] = .err .none :=
  fn_m (O := [(476018476040, fun _ => .ok (.int L)), (476018476066, fun _ => .ok (.bool false))]) (cs := [Fln [.bytes bs] = .ok (.int L), Out.ok (PV.bool (decide (8 <= L - at0))) = .ok (.bool false)]) (by kernel_rfl) rfl erS ⟨hl, congrArg (fun b => Out.ok (PV.bool b)) hL, trivial⟩
noncomputable def spot (σ : Vars) : Int := match σ with
  | [] => 0
  | q :: _ => (match q.2 with
    | .int k => k
    | _ => 0)
noncomputable def spotOf {α : Type} (a b c d : α) (σ : Vars) : α := if (spot σ == 0) = true then a else if (spot σ == 1) = true then b else if (spot σ == 2) = true then c else d
theorem rd_second_0 {Fln Ffl Fsg : List PV -> Out PV} {bs : List UInt8} {L at0 a0 a1 a2 a3 : Int} (hL : decide (8 <= L - at0) = true) (hl : Fln [.bytes bs] = .ok (.int L)) (i0 : itemP (.bytes bs) (.int (at0 + 0)) = .ok (.int a0)) (i1 : itemP (.bytes bs) (.int (at0 + 1)) = .ok (.int a1)) (i2 : itemP (.bytes bs) (.int (at0 + 2)) = .ok (.int a2)) (i3 : itemP (.bytes bs) (.int (at0 + 3)) = .ok (.int a3)) (z0 : (a0 == 0) = false) : fnP (GL [("need", F_need), ("len", Fln), ("from_little", Ffl), ("signed", Fsg)]) 12 (fScope d_second_half.1) [Str.ofString "octets", Str.ofString "at"] (fBody d_second_half.1) [.bytes bs, .int at0] = .err .none :=
  fn_m (O := [(480026480060, fun σ => spotOf (.ok (.int a0)) (.ok (.int a1)) (.ok (.int a2)) (.ok (.int a3)) σ), (480026480070, fun σ => .ok (.bool (spotOf false false false false σ))), (476018476040, fun _ => .ok (.int L)), (476018476066, fun _ => .ok (.bool true))]) (cs := [Fln [.bytes bs] = .ok (.int L), Out.ok (PV.bool (decide (8 <= L - at0))) = .ok (.bool true), itemP (.bytes bs) (.int (at0 + 0)) = .ok (.int a0), Out.ok (PV.bool (a0 == 0)) = .ok (.bool false)]) (by kernel_rfl) rfl erS ⟨hl, congrArg (fun b => Out.ok (PV.bool b)) hL, i0, congrArg (fun b => Out.ok (PV.bool b)) z0, trivial⟩
theorem rd_second_1 {Fln Ffl Fsg : List PV -> Out PV} {bs : List UInt8} {L at0 a0 a1 a2 a3 : Int} (hL : decide (8 <= L - at0) = true) (hl : Fln [.bytes bs] = .ok (.int L)) (i0 : itemP (.bytes bs) (.int (at0 + 0)) = .ok (.int a0)) (i1 : itemP (.bytes bs) (.int (at0 + 1)) = .ok (.int a1)) (i2 : itemP (.bytes bs) (.int (at0 + 2)) = .ok (.int a2)) (i3 : itemP (.bytes bs) (.int (at0 + 3)) = .ok (.int a3)) (z0 : (a0 == 0) = true) (z1 : (a1 == 0) = false) : fnP (GL [("need", F_need), ("len", Fln), ("from_little", Ffl), ("signed", Fsg)]) 12 (fScope d_second_half.1) [Str.ofString "octets", Str.ofString "at"] (fBody d_second_half.1) [.bytes bs, .int at0] = .err .none :=
  fn_m (O := [(480026480060, fun σ => spotOf (.ok (.int a0)) (.ok (.int a1)) (.ok (.int a2)) (.ok (.int a3)) σ), (480026480070, fun σ => .ok (.bool (spotOf true false false false σ))), (476018476040, fun _ => .ok (.int L)), (476018476066, fun _ => .ok (.bool true))]) (cs := [Fln [.bytes bs] = .ok (.int L), Out.ok (PV.bool (decide (8 <= L - at0))) = .ok (.bool true), itemP (.bytes bs) (.int (at0 + 0)) = .ok (.int a0), Out.ok (PV.bool (a0 == 0)) = .ok (.bool true), itemP (.bytes bs) (.int (at0 + 1)) = .ok (.int a1), Out.ok (PV.bool (a1 == 0)) = .ok (.bool false)]) (by kernel_rfl) rfl erS ⟨hl, congrArg (fun b => Out.ok (PV.bool b)) hL, i0, congrArg (fun b => Out.ok (PV.bool b)) z0, i1, congrArg (fun b => Out.ok (PV.bool b)) z1, trivial⟩
theorem rd_second_2 {Fln Ffl Fsg : List PV -> Out PV} {bs : List UInt8} {L at0 a0 a1 a2 a3 : Int} (hL : decide (8 <= L - at0) = true) (hl : Fln [.bytes bs] = .ok (.int L)) (i0 : itemP (.bytes bs) (.int (at0 + 0)) = .ok (.int a0)) (i1 : itemP (.bytes bs) (.int (at0 + 1)) = .ok (.int a1)) (i2 : itemP (.bytes bs) (.int (at0 + 2)) = .ok (.int a2)) (i3 : itemP (.bytes bs) (.int (at0 + 3)) = .ok (.int a3)) (z0 : (a0 == 0) = true) (z1 : (a1 == 0) = true) (z2 : (a2 == 0) = false) : fnP (GL [("need", F_need), ("len", Fln), ("from_little", Ffl), ("signed", Fsg)]) 12 (fScope d_second_half.1) [Str.ofString "octets", Str.ofString "at"] (fBody d_second_half.1) [.bytes bs, .int at0] = .err .none :=
  fn_m (O := [(480026480060, fun σ => spotOf (.ok (.int a0)) (.ok (.int a1)) (.ok (.int a2)) (.ok (.int a3)) σ), (480026480070, fun σ => .ok (.bool (spotOf true true false false σ))), (476018476040, fun _ => .ok (.int L)), (476018476066, fun _ => .ok (.bool true))]) (cs := [Fln [.bytes bs] = .ok (.int L), Out.ok (PV.bool (decide (8 <= L - at0))) = .ok (.bool true), itemP (.bytes bs) (.int (at0 + 0)) = .ok (.int a0), Out.ok (PV.bool (a0 == 0)) = .ok (.bool true), itemP (.bytes bs) (.int (at0 + 1)) = .ok (.int a1), Out.ok (PV.bool (a1 == 0)) = .ok (.bool true), itemP (.bytes bs) (.int (at0 + 2)) = .ok (.int a2), Out.ok (PV.bool (a2 == 0)) = .ok (.bool false)]) (by kernel_rfl) rfl erS ⟨hl, congrArg (fun b => Out.ok (PV.bool b)) hL, i0, congrArg (fun b => Out.ok (PV.bool b)) z0, i1, congrArg (fun b => Out.ok (PV.bool b)) z1, i2, congrArg (fun b => Out.ok (PV.bool b)) z2, trivial⟩
theorem rd_second_3 {Fln Ffl Fsg : List PV -> Out PV} {bs : List UInt8} {L at0 a0 a1 a2 a3 : Int} (hL : decide (8 <= L - at0) = true) (hl : Fln [.bytes bs] = .ok (.int L)) (i0 : itemP (.bytes bs) (.int (at0 + 0)) = .ok (.int a0)) (i1 : itemP (.bytes bs) (.int (at0 + 1)) = .ok (.int a1)) (i2 : itemP (.bytes bs) (.int (at0 + 2)) = .ok (.int a2)) (i3 : itemP (.bytes bs) (.int (at0 + 3)) = .ok (.int a3)) (z0 : (a0 == 0) = true) (z1 : (a1 == 0) = true) (z2 : (a2 == 0) = true) (z3 : (a3 == 0) = false) : fnP (GL [("need", F_need), ("len", Fln), ("from_little", Ffl), ("signed", Fsg)]) 12 (fScope d_second_half.1) [Str.ofString "octets", Str.ofString "at"] (fBody d_second_half.1) [.bytes bs, .int at0] = .err .none :=
  fn_m (O := [(480026480060, fun σ => spotOf (.ok (.int a0)) (.ok (.int a1)) (.ok (.int a2)) (.ok (.int a3)) σ), (480026480070, fun σ => .ok (.bool (spotOf true true true false σ))), (476018476040, fun _ => .ok (.int L)), (476018476066, fun _ => .ok (.bool true))]) (cs := [Fln [.bytes bs] = .ok (.int L), Out.ok (PV.bool (decide (8 <= L - at0))) = .ok (.bool true), itemP (.bytes bs) (.int (at0 + 0)) = .ok (.int a0), Out.ok (PV.bool (a0 == 0)) = .ok (.bool true), itemP (.bytes bs) (.int (at0 + 1)) = .ok (.int a1), Out.ok (PV.bool (a1 == 0)) = .ok (.bool true), itemP (.bytes bs) (.int (at0 + 2)) = .ok (.int a2), Out.ok (PV.bool (a2 == 0)) = .ok (.bool true), itemP (.bytes bs) (.int (at0 + 3)) = .ok (.int a3), Out.ok (PV.bool (a3 == 0)) = .ok (.bool false)]) (by kernel_rfl) rfl erS ⟨hl, congrArg (fun b => Out.ok (PV.bool b)) hL, i0, congrArg (fun b => Out.ok (PV.bool b)) z0, i1, congrArg (fun b => Out.ok (PV.bool b)) z1, i2, congrArg (fun b => Out.ok (PV.bool b)) z2, i3, congrArg (fun b => Out.ok (PV.bool b)) z3, trivial⟩
theorem rd_second_4 {Fln Ffl Fsg : List PV -> Out PV} {bs x4 : List UInt8} {L at0 w4 imm a0 a1 a2 a3 : Int} (hL : decide (8 <= L - at0) = true) (hl : Fln [.bytes bs] = .ok (.int L)) (i0 : itemP (.bytes bs) (.int (at0 + 0)) = .ok (.int a0)) (i1 : itemP (.bytes bs) (.int (at0 + 1)) = .ok (.int a1)) (i2 : itemP (.bytes bs) (.int (at0 + 2)) = .ok (.int a2)) (i3 : itemP (.bytes bs) (.int (at0 + 3)) = .ok (.int a3)) (s4 : sliceP (.bytes bs) (.int (at0 + 4)) (.int (at0 + 8)) = .ok (.bytes x4)) (f4 : Ffl [.bytes x4] = .ok (.int w4)) (g4 : Fsg [.int w4, .int 32] = .ok (.int imm)) (z0 : (a0 == 0) = true) (z1 : (a1 == 0) = true) (z2 : (a2 == 0) = true) (z3 : (a3 == 0) = true) : fnP (GL [("need", F_need), ("len", Fln), ("from_little", Ffl), ("signed", Fsg)]) 12 (fScope d_second_half.1) [Str.ofString "octets", Str.ofString "at"] (fBody d_second_half.1) [.bytes bs, .int at0] = .ok (.int imm) :=
  fn_m (O := [(480026480060, fun σ => spotOf (.ok (.int a0)) (.ok (.int a1)) (.ok (.int a2)) (.ok (.int a3)) σ), (480026480070, fun σ => .ok (.bool (spotOf true true true true σ))), (476018476040, fun _ => .ok (.int L)), (476018476066, fun _ => .ok (.bool true)), (482060482102, fun _ => .ok (.bytes x4)), (482036482104, fun _ => .ok (.int w4)), (482022482114, fun _ => .ok (.int imm))]) (cs := [Fln [.bytes bs] = .ok (.int L), Out.ok (PV.bool (decide (8 <= L - at0))) = .ok (.bool true), itemP (.bytes bs) (.int (at0 + 0)) = .ok (.int a0), Out.ok (PV.bool (a0 == 0)) = .ok (.bool true), itemP (.bytes bs) (.int (at0 + 1)) = .ok (.int a1), Out.ok (PV.bool (a1 == 0)) = .ok (.bool true), itemP (.bytes bs) (.int (at0 + 2)) = .ok (.int a2), Out.ok (PV.bool (a2 == 0)) = .ok (.bool true), itemP (.bytes bs) (.int (at0 + 3)) = .ok (.int a3), Out.ok (PV.bool (a3 == 0)) = .ok (.bool true), sliceP (.bytes bs) (.int (at0 + 4)) (.int (at0 + 8)) = .ok (.bytes x4), Ffl [.bytes x4] = .ok (.int w4), Fsg [.int w4, .int 32] = .ok (.int imm)]) (by kernel_rfl) rfl okS ⟨hl, congrArg (fun b => Out.ok (PV.bool b)) hL, i0, congrArg (fun b => Out.ok (PV.bool b)) z0, i1, congrArg (fun b => Out.ok (PV.bool b)) z1, i2, congrArg (fun b => Out.ok (PV.bool b)) z2, i3, congrArg (fun b => Out.ok (PV.bool b)) z3, s4, f4, g4, trivial⟩
theorem rd_pack_err {Fby Fli Fco : List PV -> Out PV} {c d s o i m : Int} {pe : PV} (hk : Fco [.ord c d s o i m] = .err pe) : fnP (GL [("check_order", Fco), ("bytes", Fby), ("little", Fli), ("is_wide", FU fun c => .bool (c == 24))]) 12 (fScope d_pack.1) [Str.ofString "order"] (fBody d_pack.1) [.ord c d s o i m] = .err pe :=
  fn_m (O := [(464008464044, fun _ => .err pe)]) (cs := [Fco [.ord c d s o i m] = .err pe]) (by kernel_rfl) rfl erS ⟨hk, trivial⟩
theorem rd_pack_narrow {Fby Fli Fco : List PV -> Out PV} {c d s o i m : Int} {b y2 y4 : List UInt8} (h24 : (c == 24) = false) (hk : Fco [.ord c d s o i m] = .ok (.ord c d s o i m)) (hb : Fby [.list [.int c, .int (s * 16 + d)]] = .ok (.bytes b)) (l1 : Fli [.int o, .int 2] = .ok (.bytes y2)) (l2 : Fli [.int i, .int 4] = .ok (.bytes y4)) (n0 : b.length + y2.length <= 100000) (n1 : (b ++ y2).length + y4.length <= 100000) : fnP (GL [("check_order", Fco), ("bytes", Fby), ("little", Fli), ("is_wide", FU fun c => .bool (c == 24))]) 12 (fScope d_pack.1) [Str.ofString "order"] (fBody d_pack.1) [.ord c d s o i m] = .ok (.bytes (b ++ y2 ++ y4)) :=
  fn_m (O := [(464008464044, fun _ => .ok (.ord c d s o i m)), (466024466118, fun _ => .ok (.bytes b)), (466124466164, fun _ => .ok (.bytes y2)), (466024466164, fun _ => .ok (.bytes (b ++ y2))), (466170466210, fun _ => .ok (.bytes y4)), (466024466210, fun _ => .ok (.bytes (b ++ y2 ++ y4))), (468022468050, fun _ => .ok (.bool false))]) (cs := [Fco [.ord c d s o i m] = .ok (.ord c d s o i m), Fby [.list [.int c, .int (s * 16 + d)]] = .ok (.bytes b), Fli [.int o, .int 2] = .ok (.bytes y2), binop .Add (.bytes (b)) (.bytes y2) = .ok (.bytes (b ++ y2)), Fli [.int i, .int 4] = .ok (.bytes y4), binop .Add (.bytes (b ++ y2)) (.bytes y4) = .ok (.bytes (b ++ y2 ++ y4)), Out.ok (PV.bool (c == 24)) = .ok (.bool false)]) (by kernel_rfl) rfl okS ⟨hk, hb, l1, if_pos n0, l2, if_pos n1, congrArg (fun b => Out.ok (PV.bool b)) h24, trivial⟩
theorem rd_pack_wide {Fby Fli Fco : List PV -> Out PV} {c d s o i m : Int} {b y2 y4 z z4 : List UInt8} (h24 : (c == 24) = true) (hk : Fco [.ord c d s o i m] = .ok (.ord c d s o i m)) (hb : Fby [.list [.int c, .int (s * 16 + d)]] = .ok (.bytes b)) (l1 : Fli [.int o, .int 2] = .ok (.bytes y2)) (l2 : Fli [.int i, .int 4] = .ok (.bytes y4)) (n0 : b.length + y2.length <= 100000) (n1 : (b ++ y2).length + y4.length <= 100000) (hz : Fby [.list [.int 0, .int 0, .int 0, .int 0]] = .ok (.bytes z)) (l3 : Fli [.int m, .int 4] = .ok (.bytes z4)) (n2 : (b ++ y2 ++ y4).length + z.length <= 100000) (n3 : (b ++ y2 ++ y4 ++ z).length + z4.length <= 100000) : fnP (GL [("check_order", Fco), ("bytes", Fby), ("little", Fli), ("is_wide", FU fun c => .bool (c == 24))]) 12 (fScope d_pack.1) [Str.ofString "order"] (fBody d_pack.1) [.ord c d s o i m] = .ok (.bytes (b ++ y2 ++ y4 ++ z ++ z4)) :=
  fn_m (O := [(464008464044, fun _ => .ok (.ord c d s o i m)), (466024466118, fun _ => .ok (.bytes b)), (466124466164, fun _ => .ok (.bytes y2)), (466024466164, fun _ => .ok (.bytes (b ++ y2))), (466170466210, fun _ => .ok (.bytes y4)), (466024466210, fun _ => .ok (.bytes (b ++ y2 ++ y4))), (468022468050, fun _ => .ok (.bool true)), (472038472076, fun _ => .ok (.bytes z)), (472022472076, fun _ => .ok (.bytes (b ++ y2 ++ y4 ++ z))), (472082472124, fun _ => .ok (.bytes z4)), (472022472124, fun _ => .ok (.bytes (b ++ y2 ++ y4 ++ z ++ z4)))]) (cs := [Fco [.ord c d s o i m] = .ok (.ord c d s o i m), Fby [.list [.int c, .int (s * 16 + d)]] = .ok (.bytes b), Fli [.int o, .int 2] = .ok (.bytes y2), binop .Add (.bytes (b)) (.bytes y2) = .ok (.bytes (b ++ y2)), Fli [.int i, .int 4] = .ok (.bytes y4), binop .Add (.bytes (b ++ y2)) (.bytes y4) = .ok (.bytes (b ++ y2 ++ y4)), Out.ok (PV.bool (c == 24)) = .ok (.bool true), Fby [.list [.int 0, .int 0, .int 0, .int 0]] = .ok (.bytes z), binop .Add (.bytes (b ++ y2 ++ y4)) (.bytes z) = .ok (.bytes (b ++ y2 ++ y4 ++ z)), Fli [.int m, .int 4] = .ok (.bytes z4), binop .Add (.bytes (b ++ y2 ++ y4 ++ z)) (.bytes z4) = .ok (.bytes (b ++ y2 ++ y4 ++ z ++ z4))]) (by kernel_rfl) rfl okS ⟨hk, hb, l1, if_pos n0, l2, if_pos n1, congrArg (fun b => Out.ok (PV.bool b)) h24, hz, if_pos n2, l3, if_pos n3, trivial⟩
theorem bmul {x y : Int} (h : x.natAbs < 2 ^ 64) : binop .Mult (.int x) (.int y) = .ok (.int (x * y)) := if_pos (.inr h)
theorem badd0 {x : Int} : binop .Add (.int 0) (.int x) = .ok (.int x) := congrArg (fun z => Out.ok (PV.int z)) (Int.zero_add x)
theorem bshl (a : UInt8) {k : Int} (h : 0 <= k /\ k <= 1000) : binop .LShift (.int a.toNat) (.int k) = .ok (.int (a.toNat * 2 ^ k.toNat)) := if_pos ⟨h.1, h.2, u8_64 a⟩
theorem dg8 (w : Int) : 0 <= w % 256 /\ w % 256 < 256 := ⟨Int.emod_nonneg _ (by decide), Int.emod_lt_of_pos _ (by decide)⟩
theorem lit2b (w : Int) : bytesP [.list [.int (Builtin.bitAnd (w.fdiv (2 ^ (8 * 0 : Int).toNat)) 255), .int (Builtin.bitAnd (w.fdiv (2 ^ (8 * 1 : Int).toNat)) 255)]] = .ok (.bytes [(w % 256).toNat.toUInt8, (w / 256 % 256).toNat.toUInt8]) := by
  rw [shr8, shr8, by2 (dg8 _) (dg8 _), show ((2 : Int) ^ (8 * 0 : Int).toNat) = 1 by decide, show ((2 : Int) ^ (8 * 1 : Int).toNat) = 256 by decide, Int.ediv_one]
theorem lit4b (w : Int) : bytesP [.list [.int (Builtin.bitAnd (w.fdiv (2 ^ (8 * 0 : Int).toNat)) 255), .int (Builtin.bitAnd (w.fdiv (2 ^ (8 * 1 : Int).toNat)) 255), .int (Builtin.bitAnd (w.fdiv (2 ^ (8 * 2 : Int).toNat)) 255), .int (Builtin.bitAnd (w.fdiv (2 ^ (8 * 3 : Int).toNat)) 255)]] = .ok (.bytes [(w % 256).toNat.toUInt8, (w / 256 % 256).toNat.toUInt8, (w / 65536 % 256).toNat.toUInt8, (w / 16777216 % 256).toNat.toUInt8]) := by
  rw [shr8, shr8, shr8, shr8, by4 (dg8 _) (dg8 _) (dg8 _) (dg8 _), show ((2 : Int) ^ (8 * 0 : Int).toNat) = 1 by decide, show ((2 : Int) ^ (8 * 1 : Int).toNat) = 256 by decide, show ((2 : Int) ^ (8 * 2 : Int).toNat) = 65536 by decide, show ((2 : Int) ^ (8 * 3 : Int).toNat) = 16777216 by decide, Int.ediv_one]
theorem rd_little2 (w : Int) : fnP (GL [("bytes", bytesP)]) 12 (fScope d_little.1) [Str.ofString "worth", Str.ofString "width"] (fBody d_little.1) [.int w, .int 2] = .ok (.bytes [(w % 256).toNat.toUInt8, (w / 256 % 256).toNat.toUInt8]) :=
  fn_m (O := [(38022038128, fun _ => .ok (.bytes [(w % 256).toNat.toUInt8, (w / 256 % 256).toNat.toUInt8]))]) (cs := [bytesP [.list [.int (Builtin.bitAnd (w.fdiv (2 ^ (8 * 0 : Int).toNat)) 255), .int (Builtin.bitAnd (w.fdiv (2 ^ (8 * 1 : Int).toNat)) 255)]] = .ok (.bytes [(w % 256).toNat.toUInt8, (w / 256 % 256).toNat.toUInt8])]) (by kernel_rfl) rfl okS ⟨lit2b w, trivial⟩
theorem rd_little4 (w : Int) : fnP (GL [("bytes", bytesP)]) 12 (fScope d_little.1) [Str.ofString "worth", Str.ofString "width"] (fBody d_little.1) [.int w, .int 4] = .ok (.bytes [(w % 256).toNat.toUInt8, (w / 256 % 256).toNat.toUInt8, (w / 65536 % 256).toNat.toUInt8, (w / 16777216 % 256).toNat.toUInt8]) :=
  fn_m (O := [(38022038128, fun _ => .ok (.bytes [(w % 256).toNat.toUInt8, (w / 256 % 256).toNat.toUInt8, (w / 65536 % 256).toNat.toUInt8, (w / 16777216 % 256).toNat.toUInt8]))]) (cs := [bytesP [.list [.int (Builtin.bitAnd (w.fdiv (2 ^ (8 * 0 : Int).toNat)) 255), .int (Builtin.bitAnd (w.fdiv (2 ^ (8 * 1 : Int).toNat)) 255), .int (Builtin.bitAnd (w.fdiv (2 ^ (8 * 2 : Int).toNat)) 255), .int (Builtin.bitAnd (w.fdiv (2 ^ (8 * 3 : Int).toNat)) 255)]] = .ok (.bytes [(w % 256).toNat.toUInt8, (w / 256 % 256).toNat.toUInt8, (w / 65536 % 256).toNat.toUInt8, (w / 16777216 % 256).toNat.toUInt8])]) (by kernel_rfl) rfl okS ⟨lit4b w, trivial⟩
theorem fl0 (a : UInt8) : binop .LShift (.int a.toNat) (.int (8 * 0)) = .ok (.int a.toNat) := (bshl a (by decide)).trans (congrArg (fun z => Out.ok (PV.int z)) (Int.mul_one _))
theorem fl1 (a : UInt8) : binop .LShift (.int a.toNat) (.int (8 * 1)) = .ok (.int (a.toNat * 256)) := bshl a (by decide)
theorem fl2 (a : UInt8) : binop .LShift (.int a.toNat) (.int (8 * 2)) = .ok (.int (a.toNat * 65536)) := bshl a (by decide)
theorem fl3 (a : UInt8) : binop .LShift (.int a.toNat) (.int (8 * 3)) = .ok (.int (a.toNat * 16777216)) := bshl a (by decide)
theorem rd_from2 (a b : UInt8) : fnP (GL [("len", lenP)]) 12 (fScope d_from_little.1) [Str.ofString "octets"] (fBody d_from_little.1) [.bytes [a, b]] = .ok (.int (a.toNat  + b.toNat * 256)) :=
  fn_m (O := [(46050046090, fun σ => spotOf (.ok (.int (a.toNat ))) (.ok (.int (b.toNat * 256))) (.ok (.int (b.toNat * 256))) (.ok (.int (b.toNat * 256))) σ), (46032046092, fun σ => spotOf (.ok (.int (a.toNat ))) (.ok (.int (a.toNat  + b.toNat * 256))) (.ok (.int (a.toNat  + b.toNat * 256))) (.ok (.int (a.toNat  + b.toNat * 256))) σ)]) (cs := [binop .LShift (.int a.toNat) (.int (8 * 0)) = .ok (.int (a.toNat )), binop .Add (.int 0) (.int (a.toNat )) = .ok (.int (a.toNat )), binop .LShift (.int b.toNat) (.int (8 * 1)) = .ok (.int (b.toNat * 256)), binop .Add (.int (a.toNat )) (.int (b.toNat * 256)) = .ok (.int (a.toNat  + b.toNat * 256))]) (by kernel_rfl) rfl okS ⟨fl0 a, badd0, fl1 b, rfl, trivial⟩
theorem rd_from4 (a b c d : UInt8) : fnP (GL [("len", lenP)]) 12 (fScope d_from_little.1) [Str.ofString "octets"] (fBody d_from_little.1) [.bytes [a, b, c, d]] = .ok (.int (a.toNat  + b.toNat * 256 + c.toNat * 65536 + d.toNat * 16777216)) :=
  fn_m (O := [(46050046090, fun σ => spotOf (.ok (.int (a.toNat ))) (.ok (.int (b.toNat * 256))) (.ok (.int (c.toNat * 65536))) (.ok (.int (d.toNat * 16777216))) σ), (46032046092, fun σ => spotOf (.ok (.int (a.toNat ))) (.ok (.int (a.toNat  + b.toNat * 256))) (.ok (.int (a.toNat  + b.toNat * 256 + c.toNat * 65536))) (.ok (.int (a.toNat  + b.toNat * 256 + c.toNat * 65536 + d.toNat * 16777216))) σ)]) (cs := [binop .LShift (.int a.toNat) (.int (8 * 0)) = .ok (.int (a.toNat )), binop .Add (.int 0) (.int (a.toNat )) = .ok (.int (a.toNat )), binop .LShift (.int b.toNat) (.int (8 * 1)) = .ok (.int (b.toNat * 256)), binop .Add (.int (a.toNat )) (.int (b.toNat * 256)) = .ok (.int (a.toNat  + b.toNat * 256)), binop .LShift (.int c.toNat) (.int (8 * 2)) = .ok (.int (c.toNat * 65536)), binop .Add (.int (a.toNat  + b.toNat * 256)) (.int (c.toNat * 65536)) = .ok (.int (a.toNat  + b.toNat * 256 + c.toNat * 65536)), binop .LShift (.int d.toNat) (.int (8 * 3)) = .ok (.int (d.toNat * 16777216)), binop .Add (.int (a.toNat  + b.toNat * 256 + c.toNat * 65536)) (.int (d.toNat * 16777216)) = .ok (.int (a.toNat  + b.toNat * 256 + c.toNat * 65536 + d.toNat * 16777216))]) (by kernel_rfl) rfl okS ⟨fl0 a, badd0, fl1 b, rfl, fl2 c, rfl, fl3 d, rfl, trivial⟩
theorem rd_needT (w : Str) : fnP (GL []) 12 (fScope d_need.1) [Str.ofString "is_right", Str.ofString "what"] (fBody d_need.1) [.bool true, .str w] = .ok .none := fn_m (O := []) (cs := []) (by kernel_rfl) rfl okS trivial
theorem rd_need_no (w : Str) : fnP (GL []) 12 (fScope d_need.1) [Str.ofString "is_right", Str.ofString "what"] (fBody d_need.1) [.bool false, .str w] = .err .none := fn_m (O := []) (cs := []) (by kernel_rfl) rfl erS trivial
theorem rd_due8 {Fnu Fis Fsu : List PV -> Out PV} {a0 a1 a2 a3 a4 a5 a6 a7 away w whole : Int} (h24 : (a0 != 24) = true) (hn : Fnu [.int (a2 + 256 * a3), .int 16] = .ok (.int away)) (hs : Fsu [.list [.int (a4 * 256 ^ Int.toNat 0), .int (a5 * 256 ^ Int.toNat 1), .int (a6 * 256 ^ Int.toNat 2), .int (a7 * 256 ^ Int.toNat 3)]] = .ok (.int w)) (hw : Fnu [.int w, .int 32] = .ok (.int whole)) (hi : Fis [.int a0, .int (a1 % 16), .int (a1 / 16), .int away, .int whole] = .ok (.bool true)) : fnP (GL [("_law_number", Fnu), ("_law_is", Fis), ("sum", Fsu)]) 12 (fScope d_law_due.1) [Str.ofString "octs"] (fBody d_law_due.1) [.list [.int a0, .int a1, .int a2, .int a3, .int a4, .int a5, .int a6, .int a7]] = .ok (.tuple [.int a0, .int (a1 % 16), .int (a1 / 16), .int away, .int whole, .int 0]) :=
  fn_m (O := [(688066688090, fun _ => .ok (.int (a1 % 16))), (688094688120, fun _ => .ok (.int (a1 / 16))), (690066690092, fun _ => .ok (.int (256 * a3))), (690022690102, fun _ => .ok (.int away)), (692048692148, fun _ => .ok (.int w)), (692024692158, fun _ => .ok (.int whole)), (694022694098, fun _ => .ok (.bool true)), (698014698034, fun _ => .ok (.bool true))]) (cs := [binop .Mod (.int (a1)) (.int 16) = .ok (.int (a1 % 16)), binop .FloorDiv (.int (a1)) (.int 16) = .ok (.int (a1 / 16)), binop .Mult (.int 256) (.int a3) = .ok (.int (256 * a3)), Fnu [.int (a2 + 256 * a3), .int 16] = .ok (.int away), Fsu [.list [.int (a4 * 256 ^ Int.toNat 0), .int (a5 * 256 ^ Int.toNat 1), .int (a6 * 256 ^ Int.toNat 2), .int (a7 * 256 ^ Int.toNat 3)]] = .ok (.int w), Fnu [.int w, .int 32] = .ok (.int whole), Fis [.int a0, .int (a1 % 16), .int (a1 / 16), .int away, .int whole] = .ok (.bool true), Out.ok (PV.bool (a0 != 24)) = .ok (.bool true)]) (by kernel_rfl) rfl okS ⟨bmod (by decide), bdiv (by decide) (by decide), bmul (by decide), hn, hs, hw, hi, congrArg (fun b => Out.ok (PV.bool b)) h24, trivial⟩
theorem rd_due8_no {Fnu Fis Fsu : List PV -> Out PV} {a0 a1 a2 a3 a4 a5 a6 a7 away w whole : Int} (hn : Fnu [.int (a2 + 256 * a3), .int 16] = .ok (.int away)) (hs : Fsu [.list [.int (a4 * 256 ^ Int.toNat 0), .int (a5 * 256 ^ Int.toNat 1), .int (a6 * 256 ^ Int.toNat 2), .int (a7 * 256 ^ Int.toNat 3)]] = .ok (.int w)) (hw : Fnu [.int w, .int 32] = .ok (.int whole)) (hi : Fis [.int a0, .int (a1 % 16), .int (a1 / 16), .int away, .int whole] = .ok (.bool false)) : fnP (GL [("_law_number", Fnu), ("_law_is", Fis), ("sum", Fsu)]) 12 (fScope d_law_due.1) [Str.ofString "octs"] (fBody d_law_due.1) [.list [.int a0, .int a1, .int a2, .int a3, .int a4, .int a5, .int a6, .int a7]] = .ok .none :=
  fn_m (O := [(688066688090, fun _ => .ok (.int (a1 % 16))), (688094688120, fun _ => .ok (.int (a1 / 16))), (690066690092, fun _ => .ok (.int (256 * a3))), (690022690102, fun _ => .ok (.int away)), (692048692148, fun _ => .ok (.int w)), (692024692158, fun _ => .ok (.int whole)), (694022694098, fun _ => .ok (.bool false))]) (cs := [binop .Mod (.int (a1)) (.int 16) = .ok (.int (a1 % 16)), binop .FloorDiv (.int (a1)) (.int 16) = .ok (.int (a1 / 16)), binop .Mult (.int 256) (.int a3) = .ok (.int (256 * a3)), Fnu [.int (a2 + 256 * a3), .int 16] = .ok (.int away), Fsu [.list [.int (a4 * 256 ^ Int.toNat 0), .int (a5 * 256 ^ Int.toNat 1), .int (a6 * 256 ^ Int.toNat 2), .int (a7 * 256 ^ Int.toNat 3)]] = .ok (.int w), Fnu [.int w, .int 32] = .ok (.int whole), Fis [.int a0, .int (a1 % 16), .int (a1 / 16), .int away, .int whole] = .ok (.bool false)]) (by kernel_rfl) rfl okS ⟨bmod (by decide), bdiv (by decide) (by decide), bmul (by decide), hn, hs, hw, hi, trivial⟩
theorem rd_due16_no {Fnu Fis Fsu : List PV -> Out PV} {a0 a1 a2 a3 a4 a5 a6 a7 a8 a9 a10 a11 a12 a13 a14 a15 away w whole : Int} (hn : Fnu [.int (a2 + 256 * a3), .int 16] = .ok (.int away)) (hs : Fsu [.list [.int (a4 * 256 ^ Int.toNat 0), .int (a5 * 256 ^ Int.toNat 1), .int (a6 * 256 ^ Int.toNat 2), .int (a7 * 256 ^ Int.toNat 3)]] = .ok (.int w)) (hw : Fnu [.int w, .int 32] = .ok (.int whole)) (hi : Fis [.int a0, .int (a1 % 16), .int (a1 / 16), .int away, .int whole] = .ok (.bool false)) : fnP (GL [("_law_number", Fnu), ("_law_is", Fis), ("sum", Fsu)]) 12 (fScope d_law_due.1) [Str.ofString "octs"] (fBody d_law_due.1) [.list [.int a0, .int a1, .int a2, .int a3, .int a4, .int a5, .int a6, .int a7, .int a8, .int a9, .int a10, .int a11, .int a12, .int a13, .int a14, .int a15]] = .ok .none :=
  fn_m (O := [(688066688090, fun _ => .ok (.int (a1 % 16))), (688094688120, fun _ => .ok (.int (a1 / 16))), (690066690092, fun _ => .ok (.int (256 * a3))), (690022690102, fun _ => .ok (.int away)), (692048692148, fun _ => .ok (.int w)), (692024692158, fun _ => .ok (.int whole)), (694022694098, fun _ => .ok (.bool false))]) (cs := [binop .Mod (.int (a1)) (.int 16) = .ok (.int (a1 % 16)), binop .FloorDiv (.int (a1)) (.int 16) = .ok (.int (a1 / 16)), binop .Mult (.int 256) (.int a3) = .ok (.int (256 * a3)), Fnu [.int (a2 + 256 * a3), .int 16] = .ok (.int away), Fsu [.list [.int (a4 * 256 ^ Int.toNat 0), .int (a5 * 256 ^ Int.toNat 1), .int (a6 * 256 ^ Int.toNat 2), .int (a7 * 256 ^ Int.toNat 3)]] = .ok (.int w), Fnu [.int w, .int 32] = .ok (.int whole), Fis [.int a0, .int (a1 % 16), .int (a1 / 16), .int away, .int whole] = .ok (.bool false)]) (by kernel_rfl) rfl okS ⟨bmod (by decide), bdiv (by decide) (by decide), bmul (by decide), hn, hs, hw, hi, trivial⟩
theorem rd_due16_t {Fnu Fis Fsu : List PV -> Out PV} {a0 a1 a2 a3 a4 a5 a6 a7 a8 a9 a10 a11 a12 a13 a14 a15 away w whole w2 upper : Int} {z : Bool} (h24 : (a0 != 24) = false) (hn : Fnu [.int (a2 + 256 * a3), .int 16] = .ok (.int away)) (hs : Fsu [.list [.int (a4 * 256 ^ Int.toNat 0), .int (a5 * 256 ^ Int.toNat 1), .int (a6 * 256 ^ Int.toNat 2), .int (a7 * 256 ^ Int.toNat 3)]] = .ok (.int w)) (hw : Fnu [.int w, .int 32] = .ok (.int whole)) (hi : Fis [.int a0, .int (a1 % 16), .int (a1 / 16), .int away, .int whole] = .ok (.bool true)) (hs2 : Fsu [.list [.int (a12 * 256 ^ Int.toNat 0), .int (a13 * 256 ^ Int.toNat 1), .int (a14 * 256 ^ Int.toNat 2), .int (a15 * 256 ^ Int.toNat 3)]] = .ok (.int w2)) (hw2 : Fnu [.int w2, .int 32] = .ok (.int upper)) (hz : cmpop .NotEq (.list [.int a8, .int a9, .int a10, .int a11]) (.list [.int 0, .int 0, .int 0, .int 0]) = .ok (.bool z)) (hb : (z || (a1 / 16 == 1 && upper != 0)) = true) : fnP (GL [("_law_number", Fnu), ("_law_is", Fis), ("sum", Fsu)]) 12 (fScope d_law_due.1) [Str.ofString "octs"] (fBody d_law_due.1) [.list [.int a0, .int a1, .int a2, .int a3, .int a4, .int a5, .int a6, .int a7, .int a8, .int a9, .int a10, .int a11, .int a12, .int a13, .int a14, .int a15]] = .ok .none :=
  fn_m (O := [(688066688090, fun _ => .ok (.int (a1 % 16))), (688094688120, fun _ => .ok (.int (a1 / 16))), (690066690092, fun _ => .ok (.int (256 * a3))), (690022690102, fun _ => .ok (.int away)), (692048692148, fun _ => .ok (.int w)), (692024692158, fun _ => .ok (.int whole)), (694022694098, fun _ => .ok (.bool true)), (698014698034, fun _ => .ok (.bool false)), (702048702150, fun _ => .ok (.int w2)), (702024702160, fun _ => .ok (.int upper)), (704014704066, fun _ => .ok (.bool z)), (704014704126, fun _ => .ok (.bool true))]) (cs := [binop .Mod (.int (a1)) (.int 16) = .ok (.int (a1 % 16)), binop .FloorDiv (.int (a1)) (.int 16) = .ok (.int (a1 / 16)), binop .Mult (.int 256) (.int a3) = .ok (.int (256 * a3)), Fnu [.int (a2 + 256 * a3), .int 16] = .ok (.int away), Fsu [.list [.int (a4 * 256 ^ Int.toNat 0), .int (a5 * 256 ^ Int.toNat 1), .int (a6 * 256 ^ Int.toNat 2), .int (a7 * 256 ^ Int.toNat 3)]] = .ok (.int w), Fnu [.int w, .int 32] = .ok (.int whole), Fis [.int a0, .int (a1 % 16), .int (a1 / 16), .int away, .int whole] = .ok (.bool true), Out.ok (PV.bool (a0 != 24)) = .ok (.bool false), Fsu [.list [.int (a12 * 256 ^ Int.toNat 0), .int (a13 * 256 ^ Int.toNat 1), .int (a14 * 256 ^ Int.toNat 2), .int (a15 * 256 ^ Int.toNat 3)]] = .ok (.int w2), Fnu [.int w2, .int 32] = .ok (.int upper), cmpop .NotEq (.list [.int a8, .int a9, .int a10, .int a11]) (.list [.int 0, .int 0, .int 0, .int 0]) = .ok (.bool z), Out.ok (z || (a1 / 16 == 1 && upper != 0)) = .ok true]) (by kernel_rfl) rfl okS ⟨bmod (by decide), bdiv (by decide) (by decide), bmul (by decide), hn, hs, hw, hi, congrArg (fun b => Out.ok (PV.bool b)) h24, hs2, hw2, hz, congrArg Out.ok hb, trivial⟩
theorem rd_due16_f {Fnu Fis Fsu : List PV -> Out PV} {a0 a1 a2 a3 a4 a5 a6 a7 a8 a9 a10 a11 a12 a13 a14 a15 away w whole w2 upper : Int} {z : Bool} (h24 : (a0 != 24) = false) (hn : Fnu [.int (a2 + 256 * a3), .int 16] = .ok (.int away)) (hs : Fsu [.list [.int (a4 * 256 ^ Int.toNat 0), .int (a5 * 256 ^ Int.toNat 1), .int (a6 * 256 ^ Int.toNat 2), .int (a7 * 256 ^ Int.toNat 3)]] = .ok (.int w)) (hw : Fnu [.int w, .int 32] = .ok (.int whole)) (hi : Fis [.int a0, .int (a1 % 16), .int (a1 / 16), .int away, .int whole] = .ok (.bool true)) (hs2 : Fsu [.list [.int (a12 * 256 ^ Int.toNat 0), .int (a13 * 256 ^ Int.toNat 1), .int (a14 * 256 ^ Int.toNat 2), .int (a15 * 256 ^ Int.toNat 3)]] = .ok (.int w2)) (hw2 : Fnu [.int w2, .int 32] = .ok (.int upper)) (hz : cmpop .NotEq (.list [.int a8, .int a9, .int a10, .int a11]) (.list [.int 0, .int 0, .int 0, .int 0]) = .ok (.bool z)) (hb : (z || (a1 / 16 == 1 && upper != 0)) = false) : fnP (GL [("_law_number", Fnu), ("_law_is", Fis), ("sum", Fsu)]) 12 (fScope d_law_due.1) [Str.ofString "octs"] (fBody d_law_due.1) [.list [.int a0, .int a1, .int a2, .int a3, .int a4, .int a5, .int a6, .int a7, .int a8, .int a9, .int a10, .int a11, .int a12, .int a13, .int a14, .int a15]] = .ok (.tuple [.int a0, .int (a1 % 16), .int (a1 / 16), .int away, .int whole, .int upper]) :=
  fn_m (O := [(688066688090, fun _ => .ok (.int (a1 % 16))), (688094688120, fun _ => .ok (.int (a1 / 16))), (690066690092, fun _ => .ok (.int (256 * a3))), (690022690102, fun _ => .ok (.int away)), (692048692148, fun _ => .ok (.int w)), (692024692158, fun _ => .ok (.int whole)), (694022694098, fun _ => .ok (.bool true)), (698014698034, fun _ => .ok (.bool false)), (702048702150, fun _ => .ok (.int w2)), (702024702160, fun _ => .ok (.int upper)), (704014704066, fun _ => .ok (.bool z)), (704014704126, fun _ => .ok (.bool false))]) (cs := [binop .Mod (.int (a1)) (.int 16) = .ok (.int (a1 % 16)), binop .FloorDiv (.int (a1)) (.int 16) = .ok (.int (a1 / 16)), binop .Mult (.int 256) (.int a3) = .ok (.int (256 * a3)), Fnu [.int (a2 + 256 * a3), .int 16] = .ok (.int away), Fsu [.list [.int (a4 * 256 ^ Int.toNat 0), .int (a5 * 256 ^ Int.toNat 1), .int (a6 * 256 ^ Int.toNat 2), .int (a7 * 256 ^ Int.toNat 3)]] = .ok (.int w), Fnu [.int w, .int 32] = .ok (.int whole), Fis [.int a0, .int (a1 % 16), .int (a1 / 16), .int away, .int whole] = .ok (.bool true), Out.ok (PV.bool (a0 != 24)) = .ok (.bool false), Fsu [.list [.int (a12 * 256 ^ Int.toNat 0), .int (a13 * 256 ^ Int.toNat 1), .int (a14 * 256 ^ Int.toNat 2), .int (a15 * 256 ^ Int.toNat 3)]] = .ok (.int w2), Fnu [.int w2, .int 32] = .ok (.int upper), cmpop .NotEq (.list [.int a8, .int a9, .int a10, .int a11]) (.list [.int 0, .int 0, .int 0, .int 0]) = .ok (.bool z), Out.ok (z || (a1 / 16 == 1 && upper != 0)) = .ok false]) (by kernel_rfl) rfl okS ⟨bmod (by decide), bdiv (by decide) (by decide), bmul (by decide), hn, hs, hw, hi, congrArg (fun b => Out.ok (PV.bool b)) h24, hs2, hw2, hz, congrArg Out.ok hb, trivial⟩
theorem rd_made8 {Fnu Fsu For Fco Fpa : List PV -> Out PV} {a0 a1 a2 a3 a4 a5 a6 a7 away w whole : Int} {pe : PV} (h24 : (a0 == 24) = false) (hn : Fnu [.int (a2 + 256 * a3), .int 16] = .ok (.int away)) (hs : Fsu [.list [.int (a4 * 256 ^ Int.toNat 0), .int (a5 * 256 ^ Int.toNat 1), .int (a6 * 256 ^ Int.toNat 2), .int (a7 * 256 ^ Int.toNat 3)]] = .ok (.int w)) (hw : Fnu [.int w, .int 32] = .ok (.int whole)) (ho : For [.int a0, .int (a1 % 16), .int (a1 / 16), .int away, .int whole, .int 0] = .ok (.ord a0 (a1 % 16) (a1 / 16) away whole 0)) (hk : Fco [.ord a0 (a1 % 16) (a1 / 16) away whole 0] = .err pe) (hp : Fpa [.ord a0 (a1 % 16) (a1 / 16) away whole 0] = .err pe) : fnP (GL [("_law_number", Fnu), ("sum", Fsu), ("Order", For), ("check_order", Fco), ("pack", Fpa)]) 12 (fScope d_law_made_right.1) [Str.ofString "octs", Str.ofString "due"] (fBody d_law_made_right.1) [.list [.int a0, .int a1, .int a2, .int a3, .int a4, .int a5, .int a6, .int a7], .none] = .ok (.bool true) :=
  fn_m (O := [(746054746080, fun _ => .ok (.bool false)), (750066750092, fun _ => .ok (.int (256 * a3))), (750022750102, fun _ => .ok (.int away)), (752048752148, fun _ => .ok (.int w)), (752024752158, fun _ => .ok (.int whole)), (754168754194, fun _ => .ok (.bool false)), (756054756078, fun _ => .ok (.int (a1 % 16))), (756082756108, fun _ => .ok (.int (a1 / 16))), (756024756150, fun _ => .ok (.ord a0 (a1 % 16) (a1 / 16) away whole 0)), (760016760052, fun _ => .err pe), (762016762038, fun _ => .err pe)]) (cs := [Out.ok (PV.bool (a0 == 24)) = .ok (.bool false), binop .Mult (.int 256) (.int a3) = .ok (.int (256 * a3)), Fnu [.int (a2 + 256 * a3), .int 16] = .ok (.int away), Fsu [.list [.int (a4 * 256 ^ Int.toNat 0), .int (a5 * 256 ^ Int.toNat 1), .int (a6 * 256 ^ Int.toNat 2), .int (a7 * 256 ^ Int.toNat 3)]] = .ok (.int w), Fnu [.int w, .int 32] = .ok (.int whole), Out.ok (PV.bool (a0 == 24)) = .ok (.bool false), binop .Mod (.int (a1)) (.int 16) = .ok (.int (a1 % 16)), binop .FloorDiv (.int (a1)) (.int 16) = .ok (.int (a1 / 16)), For [.int a0, .int (a1 % 16), .int (a1 / 16), .int away, .int whole, .int 0] = .ok (.ord a0 (a1 % 16) (a1 / 16) away whole 0), Fco [.ord a0 (a1 % 16) (a1 / 16) away whole 0] = .err pe, Fpa [.ord a0 (a1 % 16) (a1 / 16) away whole 0] = .err pe]) (by kernel_rfl) rfl okS ⟨congrArg (fun b => Out.ok (PV.bool b)) h24, bmul (by decide), hn, hs, hw, congrArg (fun b => Out.ok (PV.bool b)) h24, bmod (by decide), bdiv (by decide) (by decide), ho, hk, hp, trivial⟩
theorem rd_made16_t {Fnu Fsu For Fco Fpa : List PV -> Out PV} {a0 a1 a2 a3 a4 a5 a6 a7 a8 a9 a10 a11 a12 a13 a14 a15 : Int} (h24 : (a0 == 24) = true) (hz : cmpop .NotEq (.list [.int a8, .int a9, .int a10, .int a11]) (.list [.int 0, .int 0, .int 0, .int 0]) = .ok (.bool true)) : fnP (GL [("_law_number", Fnu), ("sum", Fsu), ("Order", For), ("check_order", Fco), ("pack", Fpa)]) 12 (fScope d_law_made_right.1) [Str.ofString "octs", Str.ofString "due"] (fBody d_law_made_right.1) [.list [.int a0, .int a1, .int a2, .int a3, .int a4, .int a5, .int a6, .int a7, .int a8, .int a9, .int a10, .int a11, .int a12, .int a13, .int a14, .int a15], .none] = .ok (.bool true) :=
  fn_m (O := [(746054746080, fun _ => .ok (.bool true)), (746090746142, fun _ => .ok (.bool true))]) (cs := [Out.ok (PV.bool (a0 == 24)) = .ok (.bool true), cmpop .NotEq (.list [.int a8, .int a9, .int a10, .int a11]) (.list [.int 0, .int 0, .int 0, .int 0]) = .ok (.bool true)]) (by kernel_rfl) rfl okS ⟨congrArg (fun b => Out.ok (PV.bool b)) h24, hz, trivial⟩
theorem rd_made16_f {Fnu Fsu For Fco Fpa : List PV -> Out PV} {a0 a1 a2 a3 a4 a5 a6 a7 a8 a9 a10 a11 a12 a13 a14 a15 away w whole w2 upper : Int} {pe : PV} (h24 : (a0 == 24) = true) (hn : Fnu [.int (a2 + 256 * a3), .int 16] = .ok (.int away)) (hs : Fsu [.list [.int (a4 * 256 ^ Int.toNat 0), .int (a5 * 256 ^ Int.toNat 1), .int (a6 * 256 ^ Int.toNat 2), .int (a7 * 256 ^ Int.toNat 3)]] = .ok (.int w)) (hw : Fnu [.int w, .int 32] = .ok (.int whole)) (hs2 : Fsu [.list [.int (a12 * 256 ^ Int.toNat 0), .int (a13 * 256 ^ Int.toNat 1), .int (a14 * 256 ^ Int.toNat 2), .int (a15 * 256 ^ Int.toNat 3)]] = .ok (.int w2)) (hw2 : Fnu [.int w2, .int 32] = .ok (.int upper)) (hz : cmpop .NotEq (.list [.int a8, .int a9, .int a10, .int a11]) (.list [.int 0, .int 0, .int 0, .int 0]) = .ok (.bool false)) (ho : For [.int a0, .int (a1 % 16), .int (a1 / 16), .int away, .int whole, .int upper] = .ok (.ord a0 (a1 % 16) (a1 / 16) away whole upper)) (hk : Fco [.ord a0 (a1 % 16) (a1 / 16) away whole upper] = .err pe) (hp : Fpa [.ord a0 (a1 % 16) (a1 / 16) away whole upper] = .err pe) : fnP (GL [("_law_number", Fnu), ("sum", Fsu), ("Order", For), ("check_order", Fco), ("pack", Fpa)]) 12 (fScope d_law_made_right.1) [Str.ofString "octs", Str.ofString "due"] (fBody d_law_made_right.1) [.list [.int a0, .int a1, .int a2, .int a3, .int a4, .int a5, .int a6, .int a7, .int a8, .int a9, .int a10, .int a11, .int a12, .int a13, .int a14, .int a15], .none] = .ok (.bool true) :=
  fn_m (O := [(746054746080, fun _ => .ok (.bool true)), (746090746142, fun _ => .ok (.bool false)), (750066750092, fun _ => .ok (.int (256 * a3))), (750022750102, fun _ => .ok (.int away)), (752048752148, fun _ => .ok (.int w)), (752024752158, fun _ => .ok (.int whole)), (754168754194, fun _ => .ok (.bool true)), (754048754150, fun _ => .ok (.int w2)), (754024754160, fun _ => .ok (.int upper)), (756054756078, fun _ => .ok (.int (a1 % 16))), (756082756108, fun _ => .ok (.int (a1 / 16))), (756024756150, fun _ => .ok (.ord a0 (a1 % 16) (a1 / 16) away whole upper)), (760016760052, fun _ => .err pe), (762016762038, fun _ => .err pe)]) (cs := [Out.ok (PV.bool (a0 == 24)) = .ok (.bool true), cmpop .NotEq (.list [.int a8, .int a9, .int a10, .int a11]) (.list [.int 0, .int 0, .int 0, .int 0]) = .ok (.bool false), binop .Mult (.int 256) (.int a3) = .ok (.int (256 * a3)), Fnu [.int (a2 + 256 * a3), .int 16] = .ok (.int away), Fsu [.list [.int (a4 * 256 ^ Int.toNat 0), .int (a5 * 256 ^ Int.toNat 1), .int (a6 * 256 ^ Int.toNat 2), .int (a7 * 256 ^ Int.toNat 3)]] = .ok (.int w), Fnu [.int w, .int 32] = .ok (.int whole), Out.ok (PV.bool (a0 == 24)) = .ok (.bool true), Fsu [.list [.int (a12 * 256 ^ Int.toNat 0), .int (a13 * 256 ^ Int.toNat 1), .int (a14 * 256 ^ Int.toNat 2), .int (a15 * 256 ^ Int.toNat 3)]] = .ok (.int w2), Fnu [.int w2, .int 32] = .ok (.int upper), binop .Mod (.int (a1)) (.int 16) = .ok (.int (a1 % 16)), binop .FloorDiv (.int (a1)) (.int 16) = .ok (.int (a1 / 16)), For [.int a0, .int (a1 % 16), .int (a1 / 16), .int away, .int whole, .int upper] = .ok (.ord a0 (a1 % 16) (a1 / 16) away whole upper), Fco [.ord a0 (a1 % 16) (a1 / 16) away whole upper] = .err pe, Fpa [.ord a0 (a1 % 16) (a1 / 16) away whole upper] = .err pe]) (by kernel_rfl) rfl okS ⟨congrArg (fun b => Out.ok (PV.bool b)) h24, hz, bmul (by decide), hn, hs, hw, congrArg (fun b => Out.ok (PV.bool b)) h24, hs2, hw2, bmod (by decide), bdiv (by decide) (by decide), ho, hk, hp, trivial⟩
theorem rd_made_skip {Fnu Fsu For Fco Fpa : List PV -> Out PV} {xs ds : List PV} : fnP (GL [("_law_number", Fnu), ("sum", Fsu), ("Order", For), ("check_order", Fco), ("pack", Fpa)]) 12 (fScope d_law_made_right.1) [Str.ofString "octs", Str.ofString "due"] (fBody d_law_made_right.1) [.list xs, .tuple ds] = .ok (.bool true) :=
  fn_m (O := [(746014746145, fun _ => .stuck)]) (cs := []) (by kernel_rfl) rfl okS trivial
theorem six_eq (a b c d e f : Int) : eqP (.tuple [.int a, .int b, .int c, .int d, .int e, .int f]) (.tuple [.int a, .int b, .int c, .int d, .int e, .int f]) = some true := by
  show some (PyData.eqv (.tuple [.int a, .int b, .int c, .int d, .int e, .int f]) (.tuple [.int a, .int b, .int c, .int d, .int e, .int f])) = _
  simp [PyData.eqv, PyData.eqvAll]
theorem c_six_ne (a b c d e f : Int) : cmpop .NotEq (.tuple [.int a, .int b, .int c, .int d, .int e, .int f]) (.tuple [.int a, .int b, .int c, .int d, .int e, .int f]) = .ok (.bool false) := congrArg (fun o => (outOpt o).bind fun b => Out.ok (PV.bool (!b))) (six_eq a b c d e f)
theorem c_six_eq (a b c d e f : Int) : cmpop .Eq (.tuple [.int a, .int b, .int c, .int d, .int e, .int f]) (.tuple [.int a, .int b, .int c, .int d, .int e, .int f]) = .ok (.bool true) := congrArg (fun o => (outOpt o).bind fun b => Out.ok (PV.bool b)) (six_eq a b c d e f)
theorem c_int_ne (x : Int) : cmpop .NotEq (.int x) (.int x) = .ok (.bool false) := congrArg (fun b => Out.ok (PV.bool b)) (by unfold bne; rw [beq_self_eq_true]; rfl)
theorem c_by_eq (x : List UInt8) : cmpop .Eq (.bytes x) (.bytes x) = .ok (.bool true) := congrArg (fun b => Out.ok (PV.bool b)) (beq_self_eq_true x)
theorem rd_row_no {Fun Fby Fle For Fpa Fco : List PV -> Out PV} {xs as : List PV} {row ah cut : List UInt8} {la n x4 x1 kk : Int} {p3 : PV} {p1 p2 : PV} (hr : Fby [.list xs] = .ok (.bytes row)) (ha : Fby [.list as] = .ok (.bytes ah)) (hl1 : ah.length + row.length <= 100000) (hl2 : (ah ++ row).length + ah.length <= 100000) (hla : Fle [.list as] = .ok (.int la)) (hlx : Fle [.list xs] = .ok (.int n)) (h4 : itemP (.list xs) (.int 4) = .ok (.int x4)) (h1 : itemP (.list xs) (.int 1) = .ok (.int x1)) (hk : binop .Mod (.int (x4 + x1)) (.int n) = .ok (.int kk)) (hcut : sliceP (.bytes row) .none (.int kk) = .ok (.bytes cut)) (hc : Fun [.bytes cut] = .err p3) (hu : Fun [.bytes row] = .err p1) (hb : Fun [.bytes (ah ++ row ++ ah), .int la] = .err p2) : fnP (GL [("unpack", Fun), ("bytes", Fby), ("len", Fle), ("Order", For), ("pack", Fpa), ("check_order", Fco)]) 12 (fScope d_law_row_right.1) [Str.ofString "octs", Str.ofString "due", Str.ofString "ahead"] (fBody d_law_row_right.1) [.list xs, .none, .list as] = .ok (.bool true) :=
  fn_m (O := [(722020722042, fun _ => .ok (.bytes row)), (724062724084, fun _ => .err p1), (726078726102, fun _ => .ok (.bytes ah)), (726078726114, fun _ => .ok (.bytes (ah ++ row))), (726120726144, fun _ => .ok (.bytes ah)), (726078726144, fun _ => .ok (.bytes (ah ++ row ++ ah))), (726148726168, fun _ => .ok (.int la)), (726064726170, fun _ => .err p2), (728084728098, fun _ => .ok (.int x4)), (728104728118, fun _ => .ok (.int x1)), (728126728144, fun _ => .ok (.int n)), (728082728144, fun _ => .ok (.int kk)), (728072728146, fun _ => .ok (.bytes cut)), (728058728148, fun _ => .err p3)]) (cs := [Fby [.list xs] = .ok (.bytes row), Fun [.bytes row] = .err p1, Fby [.list as] = .ok (.bytes ah), binop .Add (.bytes ah) (.bytes row) = .ok (.bytes (ah ++ row)), Fby [.list as] = .ok (.bytes ah), binop .Add (.bytes (ah ++ row)) (.bytes ah) = .ok (.bytes (ah ++ row ++ ah)), Fle [.list as] = .ok (.int la), Fun [.bytes (ah ++ row ++ ah), .int la] = .err p2, itemP (.list xs) (.int 4) = .ok (.int x4), itemP (.list xs) (.int 1) = .ok (.int x1), Fle [.list xs] = .ok (.int n), binop .Mod (.int (x4 + x1)) (.int n) = .ok (.int kk), sliceP (.bytes row) .none (.int kk) = .ok (.bytes cut), Fun [.bytes cut] = .err p3]) (by kernel_rfl) rfl okS ⟨hr, hu, ha, if_pos hl1, ha, if_pos hl2, hla, hb, h4, h1, hlx, hk, hcut, hc, trivial⟩
theorem rd_row_yes {Fun Fby Fle For Fpa Fco : List PV -> Out PV} {xs as : List PV} {row ah cut : List UInt8} {la n x4 x1 kk : Int} {p3 : PV} {c d s o i m : Int} (hr : Fby [.list xs] = .ok (.bytes row)) (ha : Fby [.list as] = .ok (.bytes ah)) (hl1 : ah.length + row.length <= 100000) (hl2 : (ah ++ row).length + ah.length <= 100000) (hla : Fle [.list as] = .ok (.int la)) (hlx : Fle [.list xs] = .ok (.int n)) (h4 : itemP (.list xs) (.int 4) = .ok (.int x4)) (h1 : itemP (.list xs) (.int 1) = .ok (.int x1)) (hk : binop .Mod (.int (x4 + x1)) (.int n) = .ok (.int kk)) (hcut : sliceP (.bytes row) .none (.int kk) = .ok (.bytes cut)) (hc : Fun [.bytes cut] = .err p3) (hu : Fun [.bytes row] = .ok (.tuple [.ord c d s o i m, .int n])) (hb : Fun [.bytes (ah ++ row ++ ah), .int la] = .ok (.tuple [.ord c d s o i m, .int (n + la)])) (ho : For [.int c, .int d, .int s, .int o, .int i, .int m] = .ok (.ord c d s o i m)) (hp : Fpa [.ord c d s o i m] = .ok (.bytes row)) (hq : Fco [.ord c d s o i m] = .ok (.ord c d s o i m)) : fnP (GL [("unpack", Fun), ("bytes", Fby), ("len", Fle), ("Order", For), ("pack", Fpa), ("check_order", Fco)]) 12 (fScope d_law_row_right.1) [Str.ofString "octs", Str.ofString "due", Str.ofString "ahead"] (fBody d_law_row_right.1) [.list xs, .tuple [.int c, .int d, .int s, .int o, .int i, .int m], .list as] = .ok (.bool true) :=
  fn_m (O := [(722020722042, fun _ => .ok (.bytes row)), (724062724084, fun _ => .ok (.tuple [.ord c d s o i m, .int n])), (726078726102, fun _ => .ok (.bytes ah)), (726078726114, fun _ => .ok (.bytes (ah ++ row))), (726120726144, fun _ => .ok (.bytes ah)), (726078726144, fun _ => .ok (.bytes (ah ++ row ++ ah))), (726148726168, fun _ => .ok (.int la)), (726064726170, fun _ => .ok (.tuple [.ord c d s o i m, .int (n + la)])), (728084728098, fun _ => .ok (.int x4)), (728104728118, fun _ => .ok (.int x1)), (728126728144, fun _ => .ok (.int n)), (728082728144, fun _ => .ok (.int kk)), (728072728146, fun _ => .ok (.bytes cut)), (728058728148, fun _ => .err p3), (736014736052, fun _ => .ok (.bool false)), (736074736092, fun _ => .ok (.int n)), (736060736092, fun _ => .ok (.bool false)), (736100736152, fun _ => .ok (.bool false)), (736194736212, fun _ => .ok (.int n)), (736218736238, fun _ => .ok (.int la)), (736162736238, fun _ => .ok (.bool false)), (740024740130, fun _ => .ok (.ord c d s o i m)), (742022742044, fun _ => .ok (.bytes row)), (742022742058, fun _ => .ok (.bool true)), (742068742104, fun _ => .ok (.ord c d s o i m)), (742068742132, fun _ => .ok (.bool true)), (742144742166, fun _ => .ok (.bytes row)), (742144742180, fun _ => .ok (.bool true))]) (cs := [Fby [.list xs] = .ok (.bytes row), Fun [.bytes row] = .ok (.tuple [.ord c d s o i m, .int n]), Fby [.list as] = .ok (.bytes ah), binop .Add (.bytes ah) (.bytes row) = .ok (.bytes (ah ++ row)), Fby [.list as] = .ok (.bytes ah), binop .Add (.bytes (ah ++ row)) (.bytes ah) = .ok (.bytes (ah ++ row ++ ah)), Fle [.list as] = .ok (.int la), Fun [.bytes (ah ++ row ++ ah), .int la] = .ok (.tuple [.ord c d s o i m, .int (n + la)]), itemP (.list xs) (.int 4) = .ok (.int x4), itemP (.list xs) (.int 1) = .ok (.int x1), Fle [.list xs] = .ok (.int n), binop .Mod (.int (x4 + x1)) (.int n) = .ok (.int kk), sliceP (.bytes row) .none (.int kk) = .ok (.bytes cut), Fun [.bytes cut] = .err p3, cmpop .NotEq (.tuple [.int c, .int d, .int s, .int o, .int i, .int m]) (.tuple [.int c, .int d, .int s, .int o, .int i, .int m]) = .ok (.bool false), Fle [.list xs] = .ok (.int n), cmpop .NotEq (.int n) (.int n) = .ok (.bool false), cmpop .NotEq (.tuple [.int c, .int d, .int s, .int o, .int i, .int m]) (.tuple [.int c, .int d, .int s, .int o, .int i, .int m]) = .ok (.bool false), Fle [.list xs] = .ok (.int n), Fle [.list as] = .ok (.int la), cmpop .NotEq (.int (n + la)) (.int (n + la)) = .ok (.bool false), For [.int c, .int d, .int s, .int o, .int i, .int m] = .ok (.ord c d s o i m), Fpa [.ord c d s o i m] = .ok (.bytes row), cmpop .Eq (.bytes row) (.bytes row) = .ok (.bool true), Fco [.ord c d s o i m] = .ok (.ord c d s o i m), cmpop .Eq (.tuple [.int c, .int d, .int s, .int o, .int i, .int m]) (.tuple [.int c, .int d, .int s, .int o, .int i, .int m]) = .ok (.bool true), Fpa [.ord c d s o i m] = .ok (.bytes row), cmpop .Eq (.bytes row) (.bytes row) = .ok (.bool true)]) (by kernel_rfl) rfl okS ⟨hr, hu, ha, if_pos hl1, ha, if_pos hl2, hla, hb, h4, h1, hlx, hk, hcut, hc, c_six_ne .., hlx, c_int_ne n, c_six_ne .., hlx, hla, c_int_ne (n + la), ho, hp, c_by_eq row, hq, c_six_eq .., hp, c_by_eq row, trivial⟩
noncomputable def dg (l k : Int) : Int := Int.fmod (Int.fdiv l (256 ^ k.toNat)) 256
noncomputable def ahd (t x k : Int) : Int := if (k == t) = true then x else 0
noncomputable abbrev Grow (Fcd Fle : List PV -> Out PV) : Gl := (GL [("_law_codes", Fcd), ("len", Fle)])
noncomputable def awayL (z : Int) : List Int := [0, 0, 0, 0, 1, 8, 16, 32, 65535, 32768, 2, z]
noncomputable def wholeL (y : Int) : List Int := [0, 0, 0, 1, 16, 32, 64, 31, 63, 33, 4294967295, 2147483648, 64, 65, 80, 81, 160, 161, 225, 241, 224, y]
noncomputable def backL (g : Int) : List Int := [0, 0, 0, 1, g, 10, 11, 15]
noncomputable def upL (y : Int) : List Int := [0, 0, y, 4294967295, 2147483648, 1]
theorem rd_row_0t {Fcd Fle : List PV -> Out PV} {cell l0 w l : Int} (h0 : binop .Mod (.int cell) (.int (2 ^ 192)) = .ok (.int l0)) (h1 : binop .Mod (.int l0) (.int 4) = .ok (.int w)) (h2 : binop .FloorDiv (.int l0) (.int 4) = .ok (.int l)) (hw : (w == 0) = true) (hf : (dg l 0 == 24) = true) : fnP (Grow Fcd Fle) 12 (fScope d_law_row.1) [Str.ofString "cell"] (fBody d_law_row.1) [.int cell] = .ok (.list (([dg l 0, dg l 1, dg l 2, dg l 3, dg l 4, dg l 5, dg l 6, dg l 7, dg l 8, dg l 9, dg l 10, dg l 11, dg l 12, dg l 13, dg l 14, dg l 15] : List Int).map .int)) :=
  fn_m (O := [(550022550052, fun _ => .ok (.int l0)), (552034552050, fun _ => .ok (.int w)), (552054552072, fun _ => .ok (.int l)), (554014554030, fun _ => .ok (.bool true)), (558046558072, fun _ => .ok (.bool true))]) (cs := [binop .Mod (.int cell) (.int (2 ^ 192)) = .ok (.int l0), binop .Mod (.int l0) (.int 4) = .ok (.int w), binop .FloorDiv (.int l0) (.int 4) = .ok (.int l), Out.ok (PV.bool (w == 0)) = .ok (.bool true), Out.ok (PV.bool (dg l 0 == 24)) = .ok (.bool true)]) (by kernel_rfl) rfl okS ⟨h0, h1, h2, congrArg (fun b => Out.ok (PV.bool b)) hw, congrArg (fun b => Out.ok (PV.bool b)) hf, trivial⟩
theorem rd_row_0f {Fcd Fle : List PV -> Out PV} {cell l0 w l : Int} (h0 : binop .Mod (.int cell) (.int (2 ^ 192)) = .ok (.int l0)) (h1 : binop .Mod (.int l0) (.int 4) = .ok (.int w)) (h2 : binop .FloorDiv (.int l0) (.int 4) = .ok (.int l)) (hw : (w == 0) = true) (hf : (dg l 0 == 24) = false) : fnP (Grow Fcd Fle) 12 (fScope d_law_row.1) [Str.ofString "cell"] (fBody d_law_row.1) [.int cell] = .ok (.list (([dg l 0, dg l 1, dg l 2, dg l 3, dg l 4, dg l 5, dg l 6, dg l 7] : List Int).map .int)) :=
  fn_m (O := [(550022550052, fun _ => .ok (.int l0)), (552034552050, fun _ => .ok (.int w)), (552054552072, fun _ => .ok (.int l)), (554014554030, fun _ => .ok (.bool true)), (558046558072, fun _ => .ok (.bool false))]) (cs := [binop .Mod (.int cell) (.int (2 ^ 192)) = .ok (.int l0), binop .Mod (.int l0) (.int 4) = .ok (.int w), binop .FloorDiv (.int l0) (.int 4) = .ok (.int l), Out.ok (PV.bool (w == 0)) = .ok (.bool true), Out.ok (PV.bool (dg l 0 == 24)) = .ok (.bool false)]) (by kernel_rfl) rfl okS ⟨h0, h1, h2, congrArg (fun b => Out.ok (PV.bool b)) hw, congrArg (fun b => Out.ok (PV.bool b)) hf, trivial⟩
theorem rd_row_8 {Fcd Fle : List PV -> Out PV} {cs : List PV} {cell l0 w l q k l1 g l2 b l3 z a l4 y v l5 : Int} (h0 : binop .Mod (.int cell) (.int (2 ^ 192)) = .ok (.int l0)) (h1 : binop .Mod (.int l0) (.int 4) = .ok (.int w)) (h2 : binop .FloorDiv (.int l0) (.int 4) = .ok (.int l)) (hw : (w == 0) = false) (hcd : Fcd [] = .ok (.list cs)) (hle : Fle [.list cs] = .ok (.int 72)) (hq : itemP (.list cs) (.int (l % 72)) = .ok (.int q)) (hk : Out.ok (PV.int (if (w == 1) = true then l % 256 else q)) = .ok (.int k)) (h3 : binop .FloorDiv (.int l) (.int 256) = .ok (.int l1)) (h4 : binop .Mod (.int l1) (.int 12) = .ok (.int g)) (h5 : binop .FloorDiv (.int l1) (.int 12) = .ok (.int l2)) (hb : itemP (.list ((backL g).map .int)) (.int (l2 % 8)) = .ok (.int b)) (h6 : binop .FloorDiv (.int l2) (.int 8) = .ok (.int l3)) (hz : binop .Mod (.int l4) (.int 65536) = .ok (.int z)) (ha : itemP (.list ((awayL z).map .int)) (.int (l3 % 12)) = .ok (.int a)) (h7 : binop .FloorDiv (.int l3) (.int 17) = .ok (.int l4)) (hy : binop .Mod (.int l5) (.int 4294967296) = .ok (.int y)) (hv : itemP (.list ((wholeL y).map .int)) (.int (l4 % 22)) = .ok (.int v)) (h8 : binop .FloorDiv (.int l4) (.int 25) = .ok (.int l5)) (hn : (k != 24) = true) : fnP (Grow Fcd Fle) 12 (fScope d_law_row.1) [Str.ofString "cell"] (fBody d_law_row.1) [.int cell] = .ok (.list (([k, b * 16 + g, a % 256, a / 256, dg v 0, dg v 1, dg v 2, dg v 3] : List Int).map .int)) :=
  fn_m (O := [(550022550052, fun _ => .ok (.int l0)), (552034552050, fun _ => .ok (.int w)), (552054552072, fun _ => .ok (.int l)), (554014554030, fun _ => .ok (.bool false)), (560024560048, fun _ => .ok (.list cs)), (562022562042, fun _ => .ok (.int (l % 256))), (562104562124, fun _ => .ok (.int 72)), (562090562124, fun _ => .ok (.int (l % 72))), (562078562126, fun _ => .ok (.int q)), (562022562126, fun _ => .ok (.int k)), (564022564044, fun _ => .ok (.int (l1))), (566036566054, fun _ => .ok (.int (g))), (566058566078, fun _ => .ok (.int (l2))), (568098568114, fun _ => .ok (.int (l2 % 8))), (568036568116, fun _ => .ok (.int b)), (568120568138, fun _ => .ok (.int (l3))), (570124570144, fun _ => .ok (.int (l4))), (570124570160, fun _ => .ok (.int (z))), (570164570182, fun _ => .ok (.int (l3 % 12))), (570036570184, fun _ => .ok (.int a)), (570188570208, fun _ => .ok (.int (l4))), (574056574076, fun _ => .ok (.int (l5))), (574056574102, fun _ => .ok (.int (y))), (574108574126, fun _ => .ok (.int (l4 % 22))), (574038574128, fun _ => .ok (.int v)), (574132574152, fun _ => .ok (.int (l5))), (576072576092, fun _ => .ok (.int (a % 256))), (576096576118, fun _ => .ok (.int (a / 256))), (578014578034, fun _ => .ok (.bool true))]) (cs := [binop .Mod (.int cell) (.int (2 ^ 192)) = .ok (.int l0), binop .Mod (.int l0) (.int 4) = .ok (.int w), binop .FloorDiv (.int l0) (.int 4) = .ok (.int l), Out.ok (PV.bool (w == 0)) = .ok (.bool false), Fcd [] = .ok (.list cs), binop .Mod (.int (l)) (.int 256) = .ok (.int (l % 256)), Fle [.list cs] = .ok (.int 72), binop .Mod (.int (l)) (.int 72) = .ok (.int (l % 72)), itemP (.list cs) (.int (l % 72)) = .ok (.int q), Out.ok (PV.int (if (w == 1) = true then l % 256 else q)) = .ok (.int k), binop .FloorDiv (.int (l)) (.int 256) = .ok (.int (l1)), binop .Mod (.int (l1)) (.int 12) = .ok (.int (g)), binop .FloorDiv (.int (l1)) (.int 12) = .ok (.int (l2)), binop .Mod (.int (l2)) (.int 8) = .ok (.int (l2 % 8)), itemP (.list ((backL g).map .int)) (.int (l2 % 8)) = .ok (.int b), binop .FloorDiv (.int (l2)) (.int 8) = .ok (.int (l3)), binop .FloorDiv (.int (l3)) (.int 17) = .ok (.int (l4)), binop .Mod (.int (l4)) (.int 65536) = .ok (.int (z)), binop .Mod (.int (l3)) (.int 12) = .ok (.int (l3 % 12)), itemP (.list ((awayL z).map .int)) (.int (l3 % 12)) = .ok (.int a), binop .FloorDiv (.int (l3)) (.int 17) = .ok (.int (l4)), binop .FloorDiv (.int (l4)) (.int 25) = .ok (.int (l5)), binop .Mod (.int (l5)) (.int 4294967296) = .ok (.int (y)), binop .Mod (.int (l4)) (.int 22) = .ok (.int (l4 % 22)), itemP (.list ((wholeL y).map .int)) (.int (l4 % 22)) = .ok (.int v), binop .FloorDiv (.int (l4)) (.int 25) = .ok (.int (l5)), binop .Mod (.int (a)) (.int 256) = .ok (.int (a % 256)), binop .FloorDiv (.int (a)) (.int 256) = .ok (.int (a / 256)), Out.ok (PV.bool (k != 24)) = .ok (.bool true)]) (by kernel_rfl) rfl okS ⟨h0, h1, h2, congrArg (fun b => Out.ok (PV.bool b)) hw, hcd, bmod (by decide), hle, bmod (by decide), hq, hk, h3, h4, h5, bmod (by decide), hb, h6, h7, hz, bmod (by decide), ha, h7, h8, hy, bmod (by decide), hv, h8, bmod (by decide), bdiv (by decide) (by decide), congrArg (fun b => Out.ok (PV.bool b)) hn, trivial⟩
theorem rd_row_16 {Fcd Fle : List PV -> Out PV} {cs : List PV} {cell l0 w l q k l1 g l2 b l3 z a l4 y v l5 e y2 u t l6 : Int} (h0 : binop .Mod (.int cell) (.int (2 ^ 192)) = .ok (.int l0)) (h1 : binop .Mod (.int l0) (.int 4) = .ok (.int w)) (h2 : binop .FloorDiv (.int l0) (.int 4) = .ok (.int l)) (hw : (w == 0) = false) (hcd : Fcd [] = .ok (.list cs)) (hle : Fle [.list cs] = .ok (.int 72)) (hq : itemP (.list cs) (.int (l % 72)) = .ok (.int q)) (hk : Out.ok (PV.int (if (w == 1) = true then l % 256 else q)) = .ok (.int k)) (h3 : binop .FloorDiv (.int l) (.int 256) = .ok (.int l1)) (h4 : binop .Mod (.int l1) (.int 12) = .ok (.int g)) (h5 : binop .FloorDiv (.int l1) (.int 12) = .ok (.int l2)) (hb : itemP (.list ((backL g).map .int)) (.int (l2 % 8)) = .ok (.int b)) (h6 : binop .FloorDiv (.int l2) (.int 8) = .ok (.int l3)) (hz : binop .Mod (.int l4) (.int 65536) = .ok (.int z)) (ha : itemP (.list ((awayL z).map .int)) (.int (l3 % 12)) = .ok (.int a)) (h7 : binop .FloorDiv (.int l3) (.int 17) = .ok (.int l4)) (hy : binop .Mod (.int l5) (.int 4294967296) = .ok (.int y)) (hv : itemP (.list ((wholeL y).map .int)) (.int (l4 % 22)) = .ok (.int v)) (h8 : binop .FloorDiv (.int l4) (.int 25) = .ok (.int l5)) (hn : (k != 24) = false) (h10 : binop .FloorDiv (.int l5) (.int 7) = .ok (.int e)) (hy2 : binop .Mod (.int e) (.int 4294967296) = .ok (.int y2)) (hu : itemP (.list ((upL y2).map .int)) (.int (l5 % 6)) = .ok (.int u)) (ht : binop .Mod (.int e) (.int 12) = .ok (.int t)) (h9 : binop .FloorDiv (.int l5) (.int 84) = .ok (.int l6)) : fnP (Grow Fcd Fle) 12 (fScope d_law_row.1) [Str.ofString "cell"] (fBody d_law_row.1) [.int cell] = .ok (.list (([k, b * 16 + g, a % 256, a / 256, dg v 0, dg v 1, dg v 2, dg v 3, ahd t (l6 % 256) 0, ahd t (l6 % 256) 1, ahd t (l6 % 256) 2, ahd t (l6 % 256) 3, dg u 0, dg u 1, dg u 2, dg u 3] : List Int).map .int)) :=
  fn_m (O := [(586026586046, fun _ => .ok (.int (l6 % 256))), (550022550052, fun _ => .ok (.int l0)), (552034552050, fun _ => .ok (.int w)), (552054552072, fun _ => .ok (.int l)), (554014554030, fun _ => .ok (.bool false)), (560024560048, fun _ => .ok (.list cs)), (562022562042, fun _ => .ok (.int (l % 256))), (562104562124, fun _ => .ok (.int 72)), (562090562124, fun _ => .ok (.int (l % 72))), (562078562126, fun _ => .ok (.int q)), (562022562126, fun _ => .ok (.int k)), (564022564044, fun _ => .ok (.int (l1))), (566036566054, fun _ => .ok (.int (g))), (566058566078, fun _ => .ok (.int (l2))), (568098568114, fun _ => .ok (.int (l2 % 8))), (568036568116, fun _ => .ok (.int b)), (568120568138, fun _ => .ok (.int (l3))), (570124570144, fun _ => .ok (.int (l4))), (570124570160, fun _ => .ok (.int (z))), (570164570182, fun _ => .ok (.int (l3 % 12))), (570036570184, fun _ => .ok (.int a)), (570188570208, fun _ => .ok (.int (l4))), (574056574076, fun _ => .ok (.int (l5))), (574056574102, fun _ => .ok (.int (y))), (574108574126, fun _ => .ok (.int (l4 % 22))), (574038574128, fun _ => .ok (.int v)), (574132574152, fun _ => .ok (.int (l5))), (576072576092, fun _ => .ok (.int (a % 256))), (576096576118, fun _ => .ok (.int (a / 256))), (578014578034, fun _ => .ok (.bool false)), (582038582056, fun _ => .ok (.int (e))), (582038582082, fun _ => .ok (.int (y2))), (582140582156, fun _ => .ok (.int (l5 % 6))), (582024582158, fun _ => .ok (.int u)), (584044584062, fun _ => .ok (.int (e))), (584044584072, fun _ => .ok (.int (t))), (584076584096, fun _ => .ok (.int (l6)))]) (cs := [binop .Mod (.int cell) (.int (2 ^ 192)) = .ok (.int l0), binop .Mod (.int l0) (.int 4) = .ok (.int w), binop .FloorDiv (.int l0) (.int 4) = .ok (.int l), Out.ok (PV.bool (w == 0)) = .ok (.bool false), Fcd [] = .ok (.list cs), binop .Mod (.int (l)) (.int 256) = .ok (.int (l % 256)), Fle [.list cs] = .ok (.int 72), binop .Mod (.int (l)) (.int 72) = .ok (.int (l % 72)), itemP (.list cs) (.int (l % 72)) = .ok (.int q), Out.ok (PV.int (if (w == 1) = true then l % 256 else q)) = .ok (.int k), binop .FloorDiv (.int (l)) (.int 256) = .ok (.int (l1)), binop .Mod (.int (l1)) (.int 12) = .ok (.int (g)), binop .FloorDiv (.int (l1)) (.int 12) = .ok (.int (l2)), binop .Mod (.int (l2)) (.int 8) = .ok (.int (l2 % 8)), itemP (.list ((backL g).map .int)) (.int (l2 % 8)) = .ok (.int b), binop .FloorDiv (.int (l2)) (.int 8) = .ok (.int (l3)), binop .FloorDiv (.int (l3)) (.int 17) = .ok (.int (l4)), binop .Mod (.int (l4)) (.int 65536) = .ok (.int (z)), binop .Mod (.int (l3)) (.int 12) = .ok (.int (l3 % 12)), itemP (.list ((awayL z).map .int)) (.int (l3 % 12)) = .ok (.int a), binop .FloorDiv (.int (l3)) (.int 17) = .ok (.int (l4)), binop .FloorDiv (.int (l4)) (.int 25) = .ok (.int (l5)), binop .Mod (.int (l5)) (.int 4294967296) = .ok (.int (y)), binop .Mod (.int (l4)) (.int 22) = .ok (.int (l4 % 22)), itemP (.list ((wholeL y).map .int)) (.int (l4 % 22)) = .ok (.int v), binop .FloorDiv (.int (l4)) (.int 25) = .ok (.int (l5)), binop .Mod (.int (a)) (.int 256) = .ok (.int (a % 256)), binop .FloorDiv (.int (a)) (.int 256) = .ok (.int (a / 256)), Out.ok (PV.bool (k != 24)) = .ok (.bool false), binop .FloorDiv (.int (l5)) (.int 7) = .ok (.int (e)), binop .Mod (.int (e)) (.int 4294967296) = .ok (.int (y2)), binop .Mod (.int (l5)) (.int 6) = .ok (.int (l5 % 6)), itemP (.list ((upL y2).map .int)) (.int (l5 % 6)) = .ok (.int u), binop .FloorDiv (.int (l5)) (.int 7) = .ok (.int (e)), binop .Mod (.int (e)) (.int 12) = .ok (.int (t)), binop .FloorDiv (.int (l5)) (.int 84) = .ok (.int (l6)), binop .Mod (.int l6) (.int 256) = .ok (.int (l6 % 256)), binop .Mod (.int l6) (.int 256) = .ok (.int (l6 % 256)), binop .Mod (.int l6) (.int 256) = .ok (.int (l6 % 256)), binop .Mod (.int l6) (.int 256) = .ok (.int (l6 % 256))]) (by kernel_rfl) rfl okS ⟨h0, h1, h2, congrArg (fun b => Out.ok (PV.bool b)) hw, hcd, bmod (by decide), hle, bmod (by decide), hq, hk, h3, h4, h5, bmod (by decide), hb, h6, h7, hz, bmod (by decide), ha, h7, h8, hy, bmod (by decide), hv, h8, bmod (by decide), bdiv (by decide) (by decide), congrArg (fun b => Out.ok (PV.bool b)) hn, h10, hy2, bmod (by decide), hu, h10, ht, h9, bmod (by decide), bmod (by decide), bmod (by decide), bmod (by decide), trivial⟩
noncomputable def oct (x : Int) : Prop := 0 <= x /\ x < 256
noncomputable def RowOK (xs : List Int) : Prop := (∀ x ∈ xs, 0 <= x /\ x < 256) /\ ((xs.length = 8 /\ xs.head? ≠ some 24) \/ (xs.length = 16 /\ xs.head? = some 24))
noncomputable def pick (l : List Int) (x : Int) : Int := l.getD (x % l.length).toNat 0
theorem pick_lt {l : List Int} (h : 0 < l.length) (x : Int) : 0 <= x % l.length /\ (x % l.length).toNat < l.length := by
  have h1 := Int.emod_nonneg x (show (l.length : Int) ≠ 0 by omega)
  have h2 := Int.emod_lt_of_pos x (show (0 : Int) < l.length by omega)
  omega
theorem pick_mem {l : List Int} (h : 0 < l.length) (x : Int) : pick l x ∈ l := by
  unfold pick
  rw [List.getD_eq_getElem?_getD, List.getElem?_eq_getElem (pick_lt h x).2]
  exact List.getElem_mem _
theorem pick_item (l : List Int) (x : Int) (h : 0 < l.length) (h2 : l.length <= 100000) : itemP (.list (l.map .int)) (.int (x % l.length)) = .ok (.int (pick l x)) := by
  have h3 := pick_lt h x
  refine (if_pos ⟨h3.1, by omega⟩).trans ?_
  rw [List.getElem?_map, List.getElem?_eq_getElem h3.2]
  unfold pick
  rw [List.getD_eq_getElem?_getD, List.getElem?_eq_getElem h3.2]; rfl
theorem pick_at {l : List Int} {n : Nat} (e : l.length = n) (h : (decide (0 < n) && decide (n <= 100000)) = true) (x : Int) : itemP (.list (l.map .int)) (.int (x % n)) = .ok (.int (pick l x)) := by
  subst e
  rw [Bool.and_eq_true, decide_eq_true_eq, decide_eq_true_eq] at h
  exact pick_item l x h.1 h.2
theorem em (x : Int) {k : Int} (h : 0 < k) : 0 <= x % k /\ x % k < k := ⟨Int.emod_nonneg x (by omega), Int.emod_lt_of_pos x h⟩
theorem dg_r (l k : Int) : oct (dg l k) := by
  unfold dg
  rw [Int.fmod_eq_emod_of_nonneg _ (by decide)]
  exact dg8 _
theorem ahd_r (t k : Int) {x : Int} (h : oct x) : oct (ahd t x k) := by
  unfold ahd
  by_cases q : (k == t) = true
  · rw [if_pos q]; exact h
  · rw [if_neg q]; exact ⟨Int.le_refl 0, by decide⟩
theorem octs_nil : ∀ x ∈ ([] : List Int), oct x := fun _ h => nomatch h
theorem octs_cons {a : Int} {r : List Int} (h : oct a) (h2 : ∀ x ∈ r, oct x) : ∀ x ∈ a :: r, oct x := List.forall_mem_cons.mpr ⟨h, h2⟩
theorem back_r {g : Int} (hg : 0 <= g /\ g < 12) (x : Int) : 0 <= pick (backL g) x /\ pick (backL g) x < 16 := by
  have h : ∀ y ∈ backL g, 0 <= y /\ y < 16 := List.forall_mem_cons.mpr ⟨by decide, List.forall_mem_cons.mpr ⟨by decide, List.forall_mem_cons.mpr ⟨by decide, List.forall_mem_cons.mpr ⟨by decide, List.forall_mem_cons.mpr ⟨⟨hg.1, by omega⟩, by decide⟩⟩⟩⟩⟩
  exact h _ (pick_mem (show 0 < List.length (_ :: _) from Nat.succ_pos _) x)
theorem away_r {z : Int} (hz : 0 <= z /\ z < 65536) (x : Int) : 0 <= pick (awayL z) x /\ pick (awayL z) x < 65536 := by
  have h : ∀ y ∈ awayL z, 0 <= y /\ y < 65536 := by
    intro y hy
    rcases List.mem_append.mp (show y ∈ [0, 0, 0, 0, 1, 8, 16, 32, 65535, 32768, 2] ++ [z] from hy) with h | h
    · exact (by decide : ∀ y ∈ ([0, 0, 0, 0, 1, 8, 16, 32, 65535, 32768, 2] : List Int), 0 <= y /\ y < 65536) y h
    · rw [List.mem_singleton.mp h]; exact hz
  exact h _ (pick_mem (show 0 < List.length (_ :: _) from Nat.succ_pos _) x)
theorem big_r {b g : Int} (hb : 0 <= b /\ b < 16) (hg : 0 <= g /\ g < 12) : oct (b * 16 + g) := by unfold oct; omega
theorem high_r {a : Int} (ha : 0 <= a /\ a < 65536) : oct (a / 256) := by unfold oct; omega
theorem law_row_ok {Fcd Fle : List PV -> Out PV} {cs : List PV} {cx : Int -> Int} (hcd : Fcd [] = .ok (.list cs)) (hle : Fle [.list cs] = .ok (.int 72)) (hcx : ∀ x, itemP (.list cs) (.int (x % 72)) = .ok (.int (cx x))) (hcb : ∀ x, 0 <= cx x /\ cx x < 256) (cell : Int) :
    ∃ xs, fnP (Grow Fcd Fle) 12 (fScope d_law_row.1) [Str.ofString "cell"] (fBody d_law_row.1) [.int cell] = .ok (.list (xs.map .int)) /\ RowOK xs := by
  have h0 := bmod (x := cell) (k := 2 ^ 192) (by decide)
  have h1 := bmod (x := cell % 2 ^ 192) (k := 4) (by decide)
  have h2 := bdiv (x := cell % 2 ^ 192) (k := 4) (by decide) (by decide)
  generalize cell % 2 ^ 192 = l0 at h0 h1 h2
  generalize l0 % 4 = w at h1
  generalize l0 / 4 = l at h2
  cases hw : (w == 0) with
  | true =>
    cases hf : (dg l 0 == 24) with
    | true =>
      refine ⟨_, rd_row_0t h0 h1 h2 hw hf, octs_cons (dg_r ..) (octs_cons (dg_r ..) (octs_cons (dg_r ..) (octs_cons (dg_r ..) (octs_cons (dg_r ..) (octs_cons (dg_r ..) (octs_cons (dg_r ..) (octs_cons (dg_r ..) (octs_cons (dg_r ..) (octs_cons (dg_r ..) (octs_cons (dg_r ..) (octs_cons (dg_r ..) (octs_cons (dg_r ..) (octs_cons (dg_r ..) (octs_cons (dg_r ..) (octs_cons (dg_r ..) octs_nil))))))))))))))), .inr ⟨rfl, congrArg some (eq_of_beq hf)⟩⟩
    | false =>
      refine ⟨_, rd_row_0f h0 h1 h2 hw hf, octs_cons (dg_r ..) (octs_cons (dg_r ..) (octs_cons (dg_r ..) (octs_cons (dg_r ..) (octs_cons (dg_r ..) (octs_cons (dg_r ..) (octs_cons (dg_r ..) (octs_cons (dg_r ..) octs_nil))))))), .inl ⟨rfl, fun h => ?_⟩⟩
      rw [Option.some.inj h] at hf; cases hf
  | false =>
    have hq := hcx l
    have hk : oct (if (w == 1) = true then l % 256 else cx l) := by
      by_cases q : (w == 1) = true
      · rw [if_pos q]; exact dg8 l
      · rw [if_neg q]; exact hcb l
    have hk2 : Out.ok (PV.int (if (w == 1) = true then l % 256 else cx l)) = .ok (.int (if (w == 1) = true then l % 256 else cx l)) := rfl
    generalize hkk : (if (w == 1) = true then l % 256 else cx l) = k at hk hk2
    rw [<- hkk] at hk2
    have h3 := bdiv (x := l) (k := 256) (by decide) (by decide)
    generalize l / 256 = l1 at h3
    have h4 := bmod (x := l1) (k := 12) (by decide)
    have h5 := bdiv (x := l1) (k := 12) (by decide) (by decide)
    have hg := em l1 (k := 12) (by decide)
    generalize l1 % 12 = g at h4 hg
    generalize l1 / 12 = l2 at h5
    have hb : itemP (.list ((backL g).map .int)) (.int (l2 % 8)) = _ := pick_at (n := 8) rfl rfl l2
    have hbr := back_r hg l2
    generalize pick (backL g) l2 = b at hb hbr
    have h6 := bdiv (x := l2) (k := 8) (by decide) (by decide)
    generalize l2 / 8 = l3 at h6
    have h7 := bdiv (x := l3) (k := 17) (by decide) (by decide)
    generalize l3 / 17 = l4 at h7
    have hz := bmod (x := l4) (k := 65536) (by decide)
    have hzr := em l4 (k := 65536) (by decide)
    generalize l4 % 65536 = z at hz hzr
    have ha : itemP (.list ((awayL z).map .int)) (.int (l3 % 12)) = _ := pick_at (n := 12) rfl rfl l3
    have har := away_r hzr l3
    generalize pick (awayL z) l3 = a at ha har
    have h8 := bdiv (x := l4) (k := 25) (by decide) (by decide)
    generalize l4 / 25 = l5 at h8
    have hy := bmod (x := l5) (k := 4294967296) (by decide)
    generalize l5 % 4294967296 = y at hy
    have hv : itemP (.list ((wholeL y).map .int)) (.int (l4 % 22)) = _ := pick_at (n := 22) rfl rfl l4
    generalize pick (wholeL y) l4 = v at hv
    have hk0 : Out.ok (PV.int (if (w == 1) = true then l % 256 else cx l)) = .ok (.int k) := by rw [hkk]
    cases hn : (k != 24) with
    | true =>
      refine ⟨_, rd_row_8 h0 h1 h2 hw hcd hle hq hk0 h3 h4 h5 hb h6 hz ha h7 hy hv h8 hn, octs_cons hk (octs_cons (big_r hbr hg) (octs_cons (dg8 a) (octs_cons (high_r har) (octs_cons (dg_r ..) (octs_cons (dg_r ..) (octs_cons (dg_r ..) (octs_cons (dg_r ..) octs_nil))))))), .inl ⟨rfl, fun h => ?_⟩⟩
      rw [Option.some.inj h] at hn; cases hn
    | false =>
      have h10 := bdiv (x := l5) (k := 7) (by decide) (by decide)
      generalize l5 / 7 = e at h10
      have hy2 := bmod (x := e) (k := 4294967296) (by decide)
      generalize e % 4294967296 = y2 at hy2
      have hu : itemP (.list ((upL y2).map .int)) (.int (l5 % 6)) = _ := pick_at (n := 6) rfl rfl l5
      generalize pick (upL y2) l5 = u at hu
      refine ⟨_, rd_row_16 h0 h1 h2 hw hcd hle hq hk0 h3 h4 h5 hb h6 hz ha h7 hy hv h8 hn h10 hy2 hu (bmod (by decide)) (bdiv (by decide) (by decide)), octs_cons hk (octs_cons (big_r hbr hg) (octs_cons (dg8 a) (octs_cons (high_r har) (octs_cons (dg_r ..) (octs_cons (dg_r ..) (octs_cons (dg_r ..) (octs_cons (dg_r ..) (octs_cons (ahd_r _ _ (dg8 _)) (octs_cons (ahd_r _ _ (dg8 _)) (octs_cons (ahd_r _ _ (dg8 _)) (octs_cons (ahd_r _ _ (dg8 _)) (octs_cons (dg_r ..) (octs_cons (dg_r ..) (octs_cons (dg_r ..) (octs_cons (dg_r ..) octs_nil))))))))))))))), .inr ⟨rfl, congrArg some ?_⟩⟩
      by_cases q : k = 24
      · exact q
      · rw [(bne_iff_ne (a := k) (b := 24)).mpr q] at hn; cases hn
noncomputable def sAt (l : List Stmt) : Nat -> Stmt := l.rec (fun _ => .Pass ⟨0, 0, 0, 0⟩) fun s _ ih n => n.rec s fun n _ => ih n
noncomputable abbrev bLaw : List Stmt := fBody d_law.1
theorem law_split : bLaw = [sAt bLaw 0, sAt bLaw 1, sAt bLaw 2, sAt bLaw 3, sAt bLaw 4, sAt bLaw 5, sAt bLaw 6, sAt bLaw 7, sAt bLaw 8] := by kernel_rfl
noncomputable def hd (σ : Vars) : PV := match σ with
  | [] => .none
  | p :: _ => p.2
noncomputable def valOf (x : Out PV) : PV := match x with
  | .ok v => v
  | _ => .none
noncomputable def isT (v : PV) : Bool := match v with
  | .tuple _ => true
  | _ => false
noncomputable def optO (x : Option PV) : Out PV := match x with
  | some v => .ok v
  | none => .err .none
theorem opt_opt (x : Option PV) : optOf (optO x) = x := by cases x <;> rfl
theorem all_map {f : PV -> PV} (l : List PV) : (l.filterMap fun v => some (f v)) = l.map f := congrFun List.filterMap_eq_map l
noncomputable def gk (v : PV) : Option PV := if isT v = true then some v else none
noncomputable def wp1 (s : Stmt) : Expr := match s with
  | .For t _ _ _ _ => t
  | _ => .Name "" ⟨0, 0, 0, 0⟩
noncomputable def wp2 (s : Stmt) : List Stmt := match s with
  | .For _ _ b _ _ => b
  | _ => []
noncomputable def pArg (s : Stmt) : Expr := match s with
  | .Return (some (.Compare (.Call _ [e] _ _) _ _ _)) _ => e
  | _ => .Name "" ⟨0, 0, 0, 0⟩
theorem c_ref (k : Int) : cmpop .Eq (.tuple [.str (Str.ofString "refused"), .int k]) (.tuple [.str (Str.ofString "refused"), .int k]) = .ok (.bool true) := by
  have e : eqP (.tuple [.str (Str.ofString "refused"), .int k]) (.tuple [.str (Str.ofString "refused"), .int k]) = some true := by
    have e : eqP (.tuple [.str (Str.ofString "refused"), .int k]) (.tuple [.str (Str.ofString "refused"), .int k]) = some (PyData.eqv (.tuple [.str (Str.ofString "refused"), .int k]) (.tuple [.str (Str.ofString "refused"), .int k])) := by kernel_rfl
    rw [e]
    simp [PyData.eqv, PyData.eqvAll]
  exact congrArg (fun o => (outOpt o).bind fun b => Out.ok (PV.bool b)) e
section
variable {Frw Fdu Frr Fmr Fby Fsu Fua Fle For : List PV -> Out PV}
noncomputable abbrev Glaw (Frw Fdu Frr Fmr Fby Fsu Fua Fle For : List PV -> Out PV) : Gl := (GL [("_law_row", Frw), ("_law_due", Fdu), ("_law_row_right", Frr), ("_law_made_right", Fmr), ("bytes", Fby), ("sum", Fsu), ("unpack_all", Fua), ("len", Fle), ("Order", For)])
theorem law_0 {ss cs : List PV} {rf : PV -> PV} (hc : sliceP (.list ss) .none (.int 14) = .ok (.list cs)) (hl : cs.length <= 1000) (hr : ∀ v ∈ cs, Frw [v] = .ok (rf v)) : exS (run (Glaw Frw Fdu Frr Fmr Fby Fsu Fua Fle For) 11) (fScope d_law.1) [("script", .list ss)] (sAt bLaw 0) = .ok (.next (("rows", .list (cs.map rf)) :: [("script", .list ss)])) := by
  have h := ask_s (O := [(766078766100, fun σ => .ok (.list cs)), (766078766101, fun σ => .ok (.list cs)), (766024766052, fun σ => .ok (rf (hd σ))), (766022766103, fun σ => .ok (rf (hd σ)))]) (G := Glaw Frw Fdu Frr Fmr Fby Fsu Fua Fle For) (n := 11) (sc := fScope d_law.1) (σ := [("script", .list ss)]) (s := sAt bLaw 0) (r := .next (("rows", .list (cs.filterMap fun v => some (rf v))) :: [("script", .list ss)])) (cs := [sliceP (.list ss) .none (.int 14) = .ok (.list cs), listP (.list cs) = .ok cs, ∀ v ∈ cs, (Frw [v] = .ok (rf v) /\ True) /\ Out.ok (some (rf v)) = .ok (some (rf v))]) (by kernel_rfl) ⟨hc, if_pos hl, fun v hv => ⟨⟨hr v hv, trivial⟩, rfl⟩, trivial⟩
  rw [all_map] at h
  exact h
theorem law_1 {rs : List PV} {x0 : PV} {df : PV -> PV} (hl : rs.length <= 1000) (hr : ∀ v ∈ rs, Fdu [v] = .ok (df v)) : exS (run (Glaw Frw Fdu Frr Fmr Fby Fsu Fua Fle For) 11) (fScope d_law.1) [("rows", .list rs), ("script", x0)] (sAt bLaw 1) = .ok (.next (("dues", .list (rs.map df)) :: [("rows", .list rs), ("script", x0)])) := by
  have h := ask_s (O := [(768078768087, fun σ => .ok (.list rs)), (768024768052, fun σ => .ok (df (hd σ))), (768022768089, fun σ => .ok (df (hd σ)))]) (G := Glaw Frw Fdu Frr Fmr Fby Fsu Fua Fle For) (n := 11) (sc := fScope d_law.1) (σ := [("rows", .list rs), ("script", x0)]) (s := sAt bLaw 1) (r := .next (("dues", .list (rs.filterMap fun v => some (df v))) :: [("rows", .list rs), ("script", x0)])) (cs := [listP (.list rs) = .ok rs, ∀ v ∈ rs, (Fdu [v] = .ok (df v) /\ True) /\ Out.ok (some (df v)) = .ok (some (df v))]) (by kernel_rfl) ⟨if_pos hl, fun v hv => ⟨⟨hr v hv, trivial⟩, rfl⟩, trivial⟩
  rw [all_map] at h
  exact h
theorem law_2 {rs r3 : List PV} {x0 x1 : PV} {af : PV -> PV} (hc : sliceP (.list rs) .none (.int 3) = .ok (.list r3)) (hl : r3.length <= 1000) (hr : ∀ v ∈ r3, itemP v (.int 1) = .ok (af v)) : exS (run (Glaw Frw Fdu Frr Fmr Fby Fsu Fua Fle For) 11) (fScope d_law.1) [("dues", x1), ("rows", .list rs), ("script", x0)] (sAt bLaw 2) = .ok (.next (("ahead", .list (r3.map af)) :: [("dues", x1), ("rows", .list rs), ("script", x0)])) := by
  have h := ask_s (O := [(770066770082, fun σ => .ok (.list r3)), (770066770083, fun σ => .ok (.list r3)), (770026770040, fun σ => .ok (af (hd σ))), (770024770085, fun σ => .ok (af (hd σ)))]) (G := Glaw Frw Fdu Frr Fmr Fby Fsu Fua Fle For) (n := 11) (sc := fScope d_law.1) (σ := [("dues", x1), ("rows", .list rs), ("script", x0)]) (s := sAt bLaw 2) (r := .next (("ahead", .list (r3.filterMap fun v => some (af v))) :: [("dues", x1), ("rows", .list rs), ("script", x0)])) (cs := [sliceP (.list rs) .none (.int 3) = .ok (.list r3), listP (.list r3) = .ok r3, ∀ v ∈ r3, (itemP v (.int 1) = .ok (af v) /\ True) /\ Out.ok (some (af v)) = .ok (some (af v))]) (by kernel_rfl) ⟨hc, if_pos hl, fun v hv => ⟨⟨hr v hv, trivial⟩, rfl⟩, trivial⟩
  rw [all_map] at h
  exact h
theorem law_3a {as ds rs : List PV} {x0 o d : PV} (h1 : Frr [o, d, .list as] = .ok (.bool true)) (h2 : Fmr [o, d] = .ok (.bool true)) : (run (Glaw Frw Fdu Frr Fmr Fby Fsu Fua Fle For) 11).b (fScope d_law.1) [("due", d), ("octs", o), ("ahead", .list as), ("dues", .list ds), ("rows", .list rs), ("script", x0)] (wp2 (sAt bLaw 3)) = .ok (.next [("due", d), ("octs", o), ("ahead", .list as), ("dues", .list ds), ("rows", .list rs), ("script", x0)]) :=
  ask_b (O := [(774030774094, fun _ => .ok (.bool true)), (774110774162, fun _ => .ok (.bool true))]) (G := Glaw Frw Fdu Frr Fmr Fby Fsu Fua Fle For) (n := 10) (cs := [Frr [o, d, .list as] = .ok (.bool true), Fmr [o, d] = .ok (.bool true)]) (by kernel_rfl) ⟨h1, h2, trivial⟩
theorem law_3b {as ds rs : List PV} {x0 o d o0 d0 : PV} (h1 : Frr [o, d, .list as] = .ok (.bool true)) (h2 : Fmr [o, d] = .ok (.bool true)) : (run (Glaw Frw Fdu Frr Fmr Fby Fsu Fua Fle For) 11).b (fScope d_law.1) [("due", d), ("octs", o), ("due", d0), ("octs", o0), ("ahead", .list as), ("dues", .list ds), ("rows", .list rs), ("script", x0)] (wp2 (sAt bLaw 3)) = .ok (.next [("due", d), ("octs", o), ("due", d0), ("octs", o0), ("ahead", .list as), ("dues", .list ds), ("rows", .list rs), ("script", x0)]) :=
  ask_b (O := [(774030774094, fun _ => .ok (.bool true)), (774110774162, fun _ => .ok (.bool true))]) (G := Glaw Frw Fdu Frr Fmr Fby Fsu Fua Fle For) (n := 10) (cs := [Frr [o, d, .list as] = .ok (.bool true), Fmr [o, d] = .ok (.bool true)]) (by kernel_rfl) ⟨h1, h2, trivial⟩
noncomputable def okE (σ0 σ : Vars) : Prop := σ = σ0 \/ ∃ o d, σ = (Str.ofString "due", d) :: (Str.ofString "octs", o) :: σ0
theorem loop_all {body : Vars -> Out Res} {sc : Scope} {t : Expr} {Inv : Vars -> Prop} (items : List PV) : (∀ v ∈ items, ∀ σ, Inv σ -> ∃ σ1 σ2, bindT sc t v σ = some σ1 /\ body σ1 = .ok (.next σ2) /\ Inv (dd σ2)) -> ∀ σ, Inv σ -> ∃ σ', loopP body sc t items σ = .ok (.next σ') /\ Inv σ' := by
  induction items with
  | nil => exact fun _ σ hi => ⟨σ, rfl, hi⟩
  | cons v r ih =>
    intro h σ hi
    obtain ⟨σ1, σ2, h1, h2, h3⟩ := h v (.head _) σ hi
    obtain ⟨σ', h4, h5⟩ := ih (fun u hu => h u (.tail _ hu)) (dd σ2) h3
    refine ⟨σ', ?_, h5⟩
    show (match bindT sc t v σ with
      | none => (Out.stuck : Out Res)
      | some σ1 => (body σ1).bind fun q => match q with
        | .next σ' => loopP body sc t r (dd σ')
        | .ret v => .ok (.ret v)) = _
    rw [h1]; dsimp only; rw [h2]; exact h4
theorem zipN_is {J : I} {as ds rs : List PV} {x0 : PV} (hr : J.e (fScope d_law.1) [("ahead", .list as), ("dues", .list ds), ("rows", .list rs), ("script", x0)] (.Name (Str.ofString "rows") ⟨386, 25, 386, 29⟩) = .ok (.list rs)) (hd : J.e (fScope d_law.1) [("ahead", .list as), ("dues", .list ds), ("rows", .list rs), ("script", x0)] (.Name (Str.ofString "dues") ⟨386, 31, 386, 35⟩) = .ok (.list ds)) : exS J (fScope d_law.1) [("ahead", .list as), ("dues", .list ds), ("rows", .list rs), ("script", x0)] (sAt bLaw 3) = (zipP [.list rs, .list ds]).bind fun items => loopP (fun σ' => J.b (fScope d_law.1) σ' (wp2 (sAt bLaw 3))) (fScope d_law.1) (wp1 (sAt bLaw 3)) items [("ahead", .list as), ("dues", .list ds), ("rows", .list rs), ("script", x0)] := by
  have e : exS J (fScope d_law.1) [("ahead", .list as), ("dues", .list ds), ("rows", .list rs), ("script", x0)] (sAt bLaw 3) = (evList J (fScope d_law.1) [("ahead", .list as), ("dues", .list ds), ("rows", .list rs), ("script", x0)] [.Name (Str.ofString "rows") ⟨386, 25, 386, 29⟩, .Name (Str.ofString "dues") ⟨386, 31, 386, 35⟩]).bind fun vs => (zipP vs).bind fun items => loopP (fun σ' => J.b (fScope d_law.1) σ' (wp2 (sAt bLaw 3))) (fScope d_law.1) (wp1 (sAt bLaw 3)) items [("ahead", .list as), ("dues", .list ds), ("rows", .list rs), ("script", x0)] := by kernel_rfl
  have e2 : evList J (fScope d_law.1) [("ahead", .list as), ("dues", .list ds), ("rows", .list rs), ("script", x0)] [.Name (Str.ofString "rows") ⟨386, 25, 386, 29⟩, .Name (Str.ofString "dues") ⟨386, 31, 386, 35⟩] = .ok [.list rs, .list ds] := by
    show (J.e _ _ _).bind (fun v => ((J.e _ _ _).bind fun v2 => .ok [v2]).bind fun vs => Out.ok (v :: vs)) = _
    rw [hr, hd]; rfl
  rw [e, e2]; rfl
theorem law_3 {as ds rs : List PV} {x0 : PV} (hl : ds.length = rs.length) (h : ∀ v ∈ List.zipWith (fun x y => PV.tuple [x, y]) rs ds, ∃ o d, v = .tuple [o, d] /\ Frr [o, d, .list as] = .ok (.bool true) /\ Fmr [o, d] = .ok (.bool true)) : ∃ σ, exS (run (Glaw Frw Fdu Frr Fmr Fby Fsu Fua Fle For) 11) (fScope d_law.1) [("ahead", .list as), ("dues", .list ds), ("rows", .list rs), ("script", x0)] (sAt bLaw 3) = .ok (.next σ) /\ okE [("ahead", .list as), ("dues", .list ds), ("rows", .list rs), ("script", x0)] σ := by
  rw [zipN_is (yes_e (O := []) (by kernel_rfl)) (yes_e (O := []) (by kernel_rfl)), show zipP [.list rs, .list ds] = _ from if_pos hl]
  refine loop_all _ (fun v hv σ hi => ?_) _ (.inl rfl)
  obtain ⟨o, d, rfl, q1, q2⟩ := h v hv
  rcases hi with rfl | ⟨o0, d0, rfl⟩
  · exact ⟨_, _, (by kernel_rfl : bindT _ _ _ _ = some ((Str.ofString "due", d) :: (Str.ofString "octs", o) :: [("ahead", .list as), ("dues", .list ds), ("rows", .list rs), ("script", x0)])), law_3a q1 q2, .inr ⟨o, d, by kernel_rfl⟩⟩
  · exact ⟨_, _, (by kernel_rfl : bindT _ _ _ _ = some ((Str.ofString "due", d) :: (Str.ofString "octs", o) :: ("due", d0) :: ("octs", o0) :: [("ahead", .list as), ("dues", .list ds), ("rows", .list rs), ("script", x0)])), law_3b q1 q2, .inr ⟨o, d, by kernel_rfl⟩⟩
theorem law_4 {as ds rs w : List PV} {x0 : PV} {W : List UInt8} (h1 : Fsu [.list rs, .list []] = .ok (.list w)) (h2 : Fby [.list w] = .ok (.bytes W)) : exS (run (Glaw Frw Fdu Frr Fmr Fby Fsu Fua Fle For) 11) (fScope d_law.1) [("ahead", .list as), ("dues", .list ds), ("rows", .list rs), ("script", x0)] (sAt bLaw 4) = .ok (.next (("whole_row", .bytes W) :: [("ahead", .list as), ("dues", .list ds), ("rows", .list rs), ("script", x0)])) := by
  have h := ask_s (O := [(778044778070, fun σ => .ok (.list w)), (778032778072, fun σ => .ok (.bytes W))]) (G := Glaw Frw Fdu Frr Fmr Fby Fsu Fua Fle For) (n := 11) (sc := fScope d_law.1) (σ := [("ahead", .list as), ("dues", .list ds), ("rows", .list rs), ("script", x0)]) (s := sAt bLaw 4) (r := .next (("whole_row", .bytes W) :: [("ahead", .list as), ("dues", .list ds), ("rows", .list rs), ("script", x0)])) (cs := [Fsu [.list rs, .list []] = .ok (.list w), Fby [.list w] = .ok (.bytes W)]) (by kernel_rfl) ⟨h1, h2, trivial⟩
  exact h
theorem law_5ok {as ds rs : List PV} {x0 u : PV} {W : List UInt8} (h1 : Fua [.bytes W] = .ok u) (hl : ds.length <= 1000) (h2 : ∀ v ∈ ds, cmpop .IsNot v .none = .ok (.bool (isT v))) : exS (run (Glaw Frw Fdu Frr Fmr Fby Fsu Fua Fle For) 11) (fScope d_law.1) [("whole_row", .bytes W), ("ahead", .list as), ("dues", .list ds), ("rows", .list rs), ("script", x0)] (sAt bLaw 5) = .ok (.next (("good", .list (ds.filterMap gk)) :: ("heard", .list [u]) :: [("whole_row", .bytes W), ("ahead", .list as), ("dues", .list ds), ("rows", .list rs), ("script", x0)])) := by
  have h := ask_s (O := [(780076780118, fun σ => .ok u), (780156780165, fun σ => .ok (.list ds)), (780172780202, fun σ => .ok (.bool (isT (hd σ)))), (780124780205, fun σ => optO (gk (hd σ)))]) (G := Glaw Frw Fdu Frr Fmr Fby Fsu Fua Fle For) (n := 11) (sc := fScope d_law.1) (σ := [("whole_row", .bytes W), ("ahead", .list as), ("dues", .list ds), ("rows", .list rs), ("script", x0)]) (s := sAt bLaw 5) (r := .next (("good", .list (ds.filterMap fun v => optOf (optO (gk v)))) :: ("heard", .list [u]) :: [("whole_row", .bytes W), ("ahead", .list as), ("dues", .list ds), ("rows", .list rs), ("script", x0)])) (cs := [Fua [.bytes W] = .ok u, listP (.list ds) = .ok ds, ∀ v ∈ ds, (cmpop .IsNot v .none = .ok (.bool (isT v)) /\ True) /\ Out.ok (if isT v = true then some v else none) = .ok (optOf (optO (gk v)))]) (by kernel_rfl) ⟨h1, if_pos hl, fun v hv => ⟨⟨h2 v hv, trivial⟩, congrArg Out.ok (opt_opt (gk v)).symm⟩, trivial⟩
  rw [show (fun v => optOf (optO (gk v))) = gk from funext fun v => opt_opt _] at h
  exact h
theorem law_5er {as ds rs : List PV} {x0 u : PV} {W : List UInt8} (h1 : Fua [.bytes W] = .err u) (hl : ds.length <= 1000) (h2 : ∀ v ∈ ds, cmpop .IsNot v .none = .ok (.bool (isT v))) : exS (run (Glaw Frw Fdu Frr Fmr Fby Fsu Fua Fle For) 11) (fScope d_law.1) [("whole_row", .bytes W), ("ahead", .list as), ("dues", .list ds), ("rows", .list rs), ("script", x0)] (sAt bLaw 5) = .ok (.next (("good", .list (ds.filterMap gk)) :: ("heard", .tuple [.str (Str.ofString "refused"), u]) :: [("whole_row", .bytes W), ("ahead", .list as), ("dues", .list ds), ("rows", .list rs), ("script", x0)])) := by
  have h := ask_s (O := [(780076780118, fun σ => .err u), (780156780165, fun σ => .ok (.list ds)), (780172780202, fun σ => .ok (.bool (isT (hd σ)))), (780124780205, fun σ => optO (gk (hd σ)))]) (G := Glaw Frw Fdu Frr Fmr Fby Fsu Fua Fle For) (n := 11) (sc := fScope d_law.1) (σ := [("whole_row", .bytes W), ("ahead", .list as), ("dues", .list ds), ("rows", .list rs), ("script", x0)]) (s := sAt bLaw 5) (r := .next (("good", .list (ds.filterMap fun v => optOf (optO (gk v)))) :: ("heard", .tuple [.str (Str.ofString "refused"), u]) :: [("whole_row", .bytes W), ("ahead", .list as), ("dues", .list ds), ("rows", .list rs), ("script", x0)])) (cs := [Fua [.bytes W] = .err u, listP (.list ds) = .ok ds, ∀ v ∈ ds, (cmpop .IsNot v .none = .ok (.bool (isT v)) /\ True) /\ Out.ok (if isT v = true then some v else none) = .ok (optOf (optO (gk v)))]) (by kernel_rfl) ⟨h1, if_pos hl, fun v hv => ⟨⟨h2 v hv, trivial⟩, congrArg Out.ok (opt_opt (gk v)).symm⟩, trivial⟩
  rw [show (fun v => optOf (optO (gk v))) = gk from funext fun v => opt_opt _] at h
  exact h
theorem law_6a {as ds rs gs : List PV} {x0 : PV} {W : List UInt8} {a b n : Int} (h1 : Fle [.list gs] = .ok (.int a)) (h2 : Fle [.list ds] = .ok (.int b)) (hab : decide (a < b) = true) (hx : methP (.list ds) (Str.ofString "index") [.none] = .ok (.int n)) : exS (run (Glaw Frw Fdu Frr Fmr Fby Fsu Fua Fle For) 11) (fScope d_law.1) [("good", .list gs), ("heard", .tuple [.str (Str.ofString "refused"), .int n]), ("whole_row", .bytes W), ("ahead", .list as), ("dues", .list ds), ("rows", .list rs), ("script", x0)] (sAt bLaw 6) = .ok (.ret (.bool true)) := by
  have h := ask_s (O := [(782014782032, fun σ => .ok (.int a)), (782038782056, fun σ => .ok (.int b)), (782014782056, fun σ => .ok (.bool true)), (784072784104, fun σ => .ok (.int n)), (784030784106, fun σ => .ok (.bool true))]) (G := Glaw Frw Fdu Frr Fmr Fby Fsu Fua Fle For) (n := 11) (sc := fScope d_law.1) (σ := [("good", .list gs), ("heard", .tuple [.str (Str.ofString "refused"), .int n]), ("whole_row", .bytes W), ("ahead", .list as), ("dues", .list ds), ("rows", .list rs), ("script", x0)]) (s := sAt bLaw 6) (r := .ret (.bool true)) (cs := [Fle [.list gs] = .ok (.int a), Fle [.list ds] = .ok (.int b), Out.ok (PV.bool (decide (a < b))) = .ok (.bool true), methP (.list ds) (Str.ofString "index") [.none] = .ok (.int n), cmpop .Eq (.tuple [.str (Str.ofString "refused"), .int n]) (.tuple [.str (Str.ofString "refused"), .int n]) = .ok (.bool true)]) (by kernel_rfl) ⟨h1, h2, congrArg (fun b => Out.ok (PV.bool b)) hab, hx, c_ref n, trivial⟩
  exact h
theorem law_6b {as ds rs gs : List PV} {x0 hv0 : PV} {W : List UInt8} {a b : Int} (h1 : Fle [.list gs] = .ok (.int a)) (h2 : Fle [.list ds] = .ok (.int b)) (hab : decide (a < b) = false) : exS (run (Glaw Frw Fdu Frr Fmr Fby Fsu Fua Fle For) 11) (fScope d_law.1) [("good", .list gs), ("heard", hv0), ("whole_row", .bytes W), ("ahead", .list as), ("dues", .list ds), ("rows", .list rs), ("script", x0)] (sAt bLaw 6) = .ok (.next [("good", .list gs), ("heard", hv0), ("whole_row", .bytes W), ("ahead", .list as), ("dues", .list ds), ("rows", .list rs), ("script", x0)]) := by
  have h := ask_s (O := [(782014782032, fun σ => .ok (.int a)), (782038782056, fun σ => .ok (.int b)), (782014782056, fun σ => .ok (.bool false))]) (G := Glaw Frw Fdu Frr Fmr Fby Fsu Fua Fle For) (n := 11) (sc := fScope d_law.1) (σ := [("good", .list gs), ("heard", hv0), ("whole_row", .bytes W), ("ahead", .list as), ("dues", .list ds), ("rows", .list rs), ("script", x0)]) (s := sAt bLaw 6) (r := .next [("good", .list gs), ("heard", hv0), ("whole_row", .bytes W), ("ahead", .list as), ("dues", .list ds), ("rows", .list rs), ("script", x0)]) (cs := [Fle [.list gs] = .ok (.int a), Fle [.list ds] = .ok (.int b), Out.ok (PV.bool (decide (a < b))) = .ok (.bool false)]) (by kernel_rfl) ⟨h1, h2, congrArg (fun b => Out.ok (PV.bool b)) hab, trivial⟩
  exact h
theorem law_7 {as ds rs gs os : List PV} {x0 : PV} {W : List UInt8} {tf : PV -> PV} (hl : os.length <= 1000) (h1 : ∀ v ∈ os, methP v (Str.ofString "told") [] = .ok (tf v)) (h2 : cmpop .NotEq (.list (os.map tf)) (.list ds) = .ok (.bool false)) : exS (run (Glaw Frw Fdu Frr Fmr Fby Fsu Fua Fle For) 11) (fScope d_law.1) [("good", .list gs), ("heard", .list [.list os]), ("whole_row", .bytes W), ("ahead", .list as), ("dues", .list ds), ("rows", .list rs), ("script", x0)] (sAt bLaw 7) = .ok (.next [("good", .list gs), ("heard", .list [.list os]), ("whole_row", .bytes W), ("ahead", .list as), ("dues", .list ds), ("rows", .list rs), ("script", x0)]) := by
  have h := ask_s (O := [(786068786085, fun σ => .ok (.list os)), (786016786040, fun σ => .ok (tf (hd σ))), (786014786087, fun σ => .ok (tf (hd σ))), (786014786102, fun σ => .ok (.bool false))]) (G := Glaw Frw Fdu Frr Fmr Fby Fsu Fua Fle For) (n := 11) (sc := fScope d_law.1) (σ := [("good", .list gs), ("heard", .list [.list os]), ("whole_row", .bytes W), ("ahead", .list as), ("dues", .list ds), ("rows", .list rs), ("script", x0)]) (s := sAt bLaw 7) (r := .next [("good", .list gs), ("heard", .list [.list os]), ("whole_row", .bytes W), ("ahead", .list as), ("dues", .list ds), ("rows", .list rs), ("script", x0)]) (cs := [listP (.list os) = .ok os, ∀ v ∈ os, (methP v (Str.ofString "told") [] = .ok (tf v) /\ True) /\ Out.ok (some (tf v)) = .ok (some (tf v)), cmpop .NotEq (.list (os.filterMap fun v => some (tf v))) (.list ds) = .ok (.bool false)]) (by kernel_rfl) ⟨if_pos hl, fun v hv => ⟨⟨h1 v hv, trivial⟩, rfl⟩, (all_map os).symm ▸ h2, trivial⟩
  exact h
theorem law_8 {as ds rs gs : List PV} {x0 hv0 : PV} {W : List UInt8} {of : PV -> PV} (hl : ds.length <= 1000) (h1 : ∀ v ∈ ds, ∃ c d s o i m : Int, v = .tuple [.int c, .int d, .int s, .int o, .int i, .int m] /\ For [.int c, .int d, .int s, .int o, .int i, .int m] = .ok (of v)) : (run (Glaw Frw Fdu Frr Fmr Fby Fsu Fua Fle For) 11).e (fScope d_law.1) [("good", .list gs), ("heard", hv0), ("whole_row", .bytes W), ("ahead", .list as), ("dues", .list ds), ("rows", .list rs), ("script", x0)] (pArg (sAt bLaw 8)) = .ok (.list (ds.map of)) := by
  have h := ask_e (O := [(790172790181, fun σ => .ok (.list ds)), (790054790066, fun σ => .ok (valOf (itemP (hd σ) (.int 0)))), (790070790082, fun σ => .ok (valOf (itemP (hd σ) (.int 1)))), (790086790098, fun σ => .ok (valOf (itemP (hd σ) (.int 2)))), (790102790114, fun σ => .ok (valOf (itemP (hd σ) (.int 3)))), (790118790130, fun σ => .ok (valOf (itemP (hd σ) (.int 4)))), (790134790146, fun σ => .ok (valOf (itemP (hd σ) (.int 5)))), (790042790148, fun σ => .ok (of (hd σ))), (790040790183, fun σ => .ok (of (hd σ)))]) (G := Glaw Frw Fdu Frr Fmr Fby Fsu Fua Fle For) (n := 11) (sc := fScope d_law.1) (σ := [("good", .list gs), ("heard", hv0), ("whole_row", .bytes W), ("ahead", .list as), ("dues", .list ds), ("rows", .list rs), ("script", x0)]) (e := pArg (sAt bLaw 8)) (v := .list (ds.filterMap fun v => some (of v))) (cs := [listP (.list ds) = .ok ds, ∀ v ∈ ds, (itemP v (.int 0) = .ok (valOf (itemP v (.int 0))) /\ itemP v (.int 1) = .ok (valOf (itemP v (.int 1))) /\ itemP v (.int 2) = .ok (valOf (itemP v (.int 2))) /\ itemP v (.int 3) = .ok (valOf (itemP v (.int 3))) /\ itemP v (.int 4) = .ok (valOf (itemP v (.int 4))) /\ itemP v (.int 5) = .ok (valOf (itemP v (.int 5))) /\ For [valOf (itemP v (.int 0)), valOf (itemP v (.int 1)), valOf (itemP v (.int 2)), valOf (itemP v (.int 3)), valOf (itemP v (.int 4)), valOf (itemP v (.int 5))] = .ok (of v) /\ True) /\ Out.ok (some (of v)) = .ok (some (of v))]) (by kernel_rfl) ⟨if_pos hl, fun v hv => by
    obtain ⟨c, d, s, o, i, m, rfl, h⟩ := h1 v hv
    exact ⟨⟨rfl, rfl, rfl, rfl, rfl, rfl, h, trivial⟩, rfl⟩, trivial⟩
  rw [all_map] at h
  exact h
end
noncomputable def iv (b : UInt8) : Int := (b.toNat : Int)
theorem iv_r (b : UInt8) : 0 <= iv b /\ iv b < 256 := ⟨Int.natCast_nonneg _, by have := b.toNat_lt; unfold iv; omega⟩
theorem iv_u (b : UInt8) : (iv b).toNat.toUInt8 = b := by
  show UInt8.ofNat (((b.toNat : Nat) : Int).toNat) = b
  rw [Int.toNat_natCast, UInt8.ofNat_toNat]
theorem u_iv {x : Int} (h : 0 <= x /\ x < 256) : iv x.toNat.toUInt8 = x := by
  show (((UInt8.ofNat x.toNat).toNat : Nat) : Int) = x
  rw [UInt8.toNat_ofNat_of_lt' (by show x.toNat < 256; omega)]
  omega
noncomputable def octl (r : List UInt8) : List PV := r.map fun b => .int (iv b)
theorem allInts_ints : ∀ r, allInts (octl r) = some (r.map iv)
  | [] => rfl
  | b :: r => by
    show (allInts (octl r)).map (iv b :: ·) = _
    rw [allInts_ints r]; rfl
theorem bytes_ints {r : List UInt8} (h : r.length <= 100000) : bytesP [.list (octl r)] = .ok (.bytes r) := by
  have e : ((r.map iv).map fun n => n.toNat.toUInt8) = r := by
    rw [List.map_map]
    exact (List.map_congr_left fun b _ => iv_u b).trans (List.map_id r)
  have a : ((r.map iv).all fun n => decide (0 <= n /\ n < 256)) = true := by
    rw [List.all_eq_true]
    intro x hx
    obtain ⟨b, _, rfl⟩ := List.mem_map.mp hx
    exact decide_eq_true (iv_r b)
  show (outOpt (allInts (octl r))).bind _ = _
  rw [allInts_ints]
  exact (if_pos ⟨a, by rw [List.length_map]; exact h⟩).trans (by rw [e])
noncomputable def Row (r : List UInt8) : Prop := (∃ a0 a1 a2 a3 a4 a5 a6 a7, r = [a0, a1, a2, a3, a4, a5, a6, a7] /\ (iv a0 == 24) = false) \/
  (∃ a0 a1 a2 a3 a4 a5 a6 a7 a8 a9 a10 a11 a12 a13 a14 a15, r = [a0, a1, a2, a3, a4, a5, a6, a7, a8, a9, a10, a11, a12, a13, a14, a15] /\ (iv a0 == 24) = true)
theorem cons_of {α : Type} {r : List α} {n : Nat} (h : r.length = n + 1) : ∃ a r', r = a :: r' /\ r'.length = n := by
  cases r with
  | nil => cases h
  | cons a r' => exact ⟨a, r', rfl, Nat.succ.inj h⟩
theorem len8 {α : Type} {r : List α} {n : Nat} (h : r.length = n + 8) : ∃ a0 a1 a2 a3 a4 a5 a6 a7 r', r = a0 :: a1 :: a2 :: a3 :: a4 :: a5 :: a6 :: a7 :: r' /\ r'.length = n := by
  obtain ⟨a0, r1, e0, h0⟩ := cons_of h
  obtain ⟨a1, r2, e1, h1⟩ := cons_of h0
  obtain ⟨a2, r3, e2, h2⟩ := cons_of h1
  obtain ⟨a3, r4, e3, h3⟩ := cons_of h2
  obtain ⟨a4, r5, e4, h4⟩ := cons_of h3
  obtain ⟨a5, r6, e5, h5⟩ := cons_of h4
  obtain ⟨a6, r7, e6, h6⟩ := cons_of h5
  obtain ⟨a7, r8, e7, h7⟩ := cons_of h6
  exact ⟨a0, a1, a2, a3, a4, a5, a6, a7, r8, by rw [e0, e1, e2, e3, e4, e5, e6, e7], h7⟩
theorem RowOK.row {xs : List Int} (h : RowOK xs) : ∃ r : List UInt8, xs.map PV.int = octl r /\ Row r := by
  refine ⟨xs.map fun x => x.toNat.toUInt8, ?_, ?_⟩
  · show _ = (xs.map fun x => x.toNat.toUInt8).map fun b => PV.int (iv b)
    rw [List.map_map]
    exact List.map_congr_left fun x hx => congrArg PV.int (u_iv (h.1 x hx)).symm
  · rcases h.2 with ⟨h8, hn⟩ | ⟨h16, hn⟩
    · obtain ⟨a0, a1, a2, a3, a4, a5, a6, a7, r', rfl, hz⟩ := len8 (n := 0) h8
      obtain rfl := List.length_eq_zero_iff.mp hz
      refine .inl ⟨_, _, _, _, _, _, _, _, rfl, ?_⟩
      rw [u_iv (h.1 a0 (.head _)), beq_eq_false_iff_ne]
      exact fun e => hn (by rw [e]; rfl)
    · obtain ⟨a0, a1, a2, a3, a4, a5, a6, a7, r', rfl, hz⟩ := len8 (n := 8) h16
      obtain ⟨a8, a9, a10, a11, a12, a13, a14, a15, r'', rfl, hz2⟩ := len8 (n := 0) hz
      obtain rfl := List.length_eq_zero_iff.mp hz2
      refine .inr ⟨_, _, _, _, _, _, _, _, _, _, _, _, _, _, _, _, rfl, ?_⟩
      rw [u_iv (h.1 a0 (.head _)), beq_iff_eq]
      exact Option.some.inj hn
theorem le_b {a b : Nat} (h : Nat.ble a b = true) : a <= b := Nat.le_of_ble_eq_true h
theorem item_at {pre rest : List UInt8} {b : UInt8} {k : Int} {j : Nat} (hk : k = pre.length + j) (hj : rest[j]? = some b) (hl : (pre ++ rest).length <= 100000) : itemP (.bytes (pre ++ rest)) (.int k) = .ok (.int (iv b)) := by
  subst hk
  have h1 : j < rest.length := (List.getElem?_eq_some_iff.mp hj).1
  have h3 : ((pre.length : Int) + j).toNat = pre.length + j := by omega
  have h2 : 0 <= ((pre.length : Int) + j) /\ ((pre.length : Int) + j) < ((pre ++ rest).length : Nat) /\ (pre ++ rest).length <= 100000 := ⟨by omega, by rw [List.length_append]; omega, hl⟩
  refine (if_pos h2).trans ?_
  rw [h3, List.getD_eq_getElem?_getD, List.getElem?_append_right (Nat.le_add_right _ _), Nat.add_sub_cancel_left, hj]
  rfl
theorem partP_int {k : Int} (h : 0 <= k) : partP (.int k) = .ok (some k) := by
  unfold partP; dsimp only; rw [if_pos h]
theorem slice_at {pre rest : List UInt8} {k l : Int} {i j : Nat} (hk : k = pre.length + i) (hl : l = pre.length + j) (hj : j <= rest.length) (hL : (pre ++ rest).length <= 100000) : sliceP (.bytes (pre ++ rest)) (.int k) (.int l) = .ok (.bytes ((rest.drop i).take (j - i))) := by
  subst hk hl
  have p1 : partP (.int ((pre.length : Int) + i)) = .ok (some ((pre.length : Int) + i)) := partP_int (by omega)
  have p2 : partP (.int ((pre.length : Int) + j)) = .ok (some ((pre.length : Int) + j)) := partP_int (by omega)
  have hlen : (pre ++ rest).length = pre.length + rest.length := List.length_append
  have e1 : kms_lo (some ((pre.length : Int) + i)) (pre ++ rest).length = min (pre.length + i) (pre.length + rest.length) := by
    unfold kms_lo; dsimp only
    rw [if_neg (by omega), hlen]
    omega
  have e2 : kms_hi (some ((pre.length : Int) + j)) (pre ++ rest).length = pre.length + j := by
    unfold kms_hi; dsimp only
    rw [if_neg (by omega), hlen]
    omega
  unfold sliceP
  rw [p1, p2]
  refine (if_pos hL).trans ?_
  unfold cutP
  rw [e1, e2]
  congr 2
  by_cases hi : i <= rest.length
  · rw [Nat.min_eq_left (by omega), List.drop_append, List.drop_eq_nil_of_le (by omega), List.nil_append, Nat.add_sub_cancel_left]
    congr 1
    omega
  · rw [Nat.min_eq_right (by omega), List.drop_eq_nil_of_le (by rw [hlen]; omega), List.drop_eq_nil_of_le (by omega)]
    simp
theorem len_bytes {bs : List UInt8} (h : bs.length <= 100000) : lenP [.bytes bs] = .ok (.int bs.length) := if_pos h
noncomputable def F_second_half (ps : List PV) : Out PV := fnP (GL [("need", F_need), ("len", lenP), ("from_little", F_from_little), ("signed", F_signed)]) 12 (fScope d_second_half.1) [Str.ofString "octets", Str.ofString "at"] (fBody d_second_half.1) ps
noncomputable def G_unpack : Gl := GL [("need", F_need), ("len", lenP), ("from_little", F_from_little), ("signed", F_signed), ("Order", ordP), ("is_wide", FU fun c => .bool (c == 24)), ("second_half", F_second_half), ("check_order", F_check_order)]
noncomputable def F_unpack2 (ps : List PV) : Out PV := fnP G_unpack 12 (fScope d_unpack.1) [Str.ofString "octets", Str.ofString "at"] (fBody d_unpack.1) ps
noncomputable def F_unpack (ps : List PV) : Out PV := match ps with
  | [b] => F_unpack2 [b, .int 0]
  | ps => F_unpack2 ps
noncomputable def F_little (ps : List PV) : Out PV := fnP (GL [("bytes", bytesP)]) 12 (fScope d_little.1) [Str.ofString "worth", Str.ofString "width"] (fBody d_little.1) ps
noncomputable def F_pack (ps : List PV) : Out PV := fnP (GL [("check_order", F_check_order), ("bytes", bytesP), ("little", F_little), ("is_wide", FU fun c => .bool (c == 24))]) 12 (fScope d_pack.1) [Str.ofString "order"] (fBody d_pack.1) ps
theorem fits_sgn16 {w : Int} (h : 0 <= w /\ w < 65536) : fits 16 (sgn 16 w) = true := by
  unfold fits sgn
  split
  · simp only [Bool.and_eq_true, decide_eq_true_eq]; omega
  · simp only [Bool.and_eq_true, decide_eq_true_eq]; omega
theorem fits_sgn32 {w : Int} (h : 0 <= w /\ w < 4294967296) : fits 32 (sgn 32 w) = true := by
  unfold fits sgn
  split
  · simp only [Bool.and_eq_true, decide_eq_true_eq]; omega
  · simp only [Bool.and_eq_true, decide_eq_true_eq]; omega
theorem fits_0 : fits 32 0 = true := by decide
noncomputable def okT (a0 a1 a2 a3 a4 a5 a6 a7 : UInt8) : Bool := L_law_is (iv a0) (iv a1 % 16) (iv a1 / 16) (sgn 16 (le2 a2 a3)) (sgn 32 (le4 a4 a5 a6 a7))
noncomputable def ordT (a0 a1 a2 a3 a4 a5 a6 a7 : UInt8) (m : Int) : PV := .ord (iv a0) (iv a1 % 16) (iv a1 / 16) (sgn 16 (le2 a2 a3)) (sgn 32 (le4 a4 a5 a6 a7)) m
noncomputable def tupT (a0 a1 a2 a3 a4 a5 a6 a7 : UInt8) (m : Int) : PV := .tuple [.int (iv a0), .int (iv a1 % 16), .int (iv a1 / 16), .int (sgn 16 (le2 a2 a3)), .int (sgn 32 (le4 a4 a5 a6 a7)), .int m]
section
variable {a0 a1 a2 a3 a4 a5 a6 a7 a8 a9 a10 a11 a12 a13 a14 a15 : UInt8}
theorem co_narrow (h : (iv a0 == 24) = false) : F_check_order [ordT a0 a1 a2 a3 a4 a5 a6 a7 0] = okO (ordT a0 a1 a2 a3 a4 a5 a6 a7 0) (okT a0 a1 a2 a3 a4 a5 a6 a7) := by
  unfold ordT okT
  rw [cf_check_order (iv_r a0), check_same (iv_r a0) (Int.emod_nonneg _ (by decide)) (Int.ediv_nonneg (iv_r a1).1 (by decide)) (fits_sgn16 (le2_r a2 a3)) (fits_sgn32 (le4_r a4 a5 a6 a7)) fits_0, h]
  generalize L_law_is _ _ _ _ _ = b
  generalize (iv a1 / 16 == 0) = e
  cases b <;> cases e <;> rfl
theorem co_wide (h : (iv a0 == 24) = true) {m : Int} (hm : fits 32 m = true) : F_check_order [ordT a0 a1 a2 a3 a4 a5 a6 a7 m] = okO (ordT a0 a1 a2 a3 a4 a5 a6 a7 m) (okT a0 a1 a2 a3 a4 a5 a6 a7 && (iv a1 / 16 == 0 || m == 0)) := by
  unfold ordT okT
  rw [cf_check_order (iv_r a0), check_same (iv_r a0) (Int.emod_nonneg _ (by decide)) (Int.ediv_nonneg (iv_r a1).1 (by decide)) (fits_sgn16 (le2_r a2 a3)) (fits_sgn32 (le4_r a4 a5 a6 a7)) hm, h]
  generalize L_law_is _ _ _ _ _ = b
  generalize (iv a1 / 16 == 0) = e
  generalize (m == 0) = g
  cases b <;> cases e <;> cases g <;> rfl
theorem unpack8 (h : (iv a0 == 24) = false) {pre post : List UInt8} (hl : (pre ++ (a0 :: a1 :: a2 :: a3 :: a4 :: a5 :: a6 :: a7 :: post)).length <= 100000) :
    F_unpack2 [.bytes (pre ++ (a0 :: a1 :: a2 :: a3 :: a4 :: a5 :: a6 :: a7 :: post)), .int pre.length] = if okT a0 a1 a2 a3 a4 a5 a6 a7 = true then .ok (.tuple [ordT a0 a1 a2 a3 a4 a5 a6 a7 0, .int (pre.length + 8)]) else .err .none := by
  have hlen : (pre ++ (a0 :: a1 :: a2 :: a3 :: a4 :: a5 :: a6 :: a7 :: post)).length = pre.length + (post.length + 8) := by simp
  have co := co_narrow (a1 := a1) (a2 := a2) (a3 := a3) (a4 := a4) (a5 := a5) (a6 := a6) (a7 := a7) h
  have hL : decide (8 <= (((pre ++ (a0 :: a1 :: a2 :: a3 :: a4 :: a5 :: a6 :: a7 :: post)).length : Nat) : Int) - pre.length) = true := decide_eq_true (by rw [hlen]; omega)
  cases hk : okT a0 a1 a2 a3 a4 a5 a6 a7 with
  | true =>
    rw [hk] at co
    exact rd_unpack_narrow_ok hL (len_bytes hl) (item_at (j := 0) (Int.add_zero _).symm rfl hl) (item_at (j := 1) rfl rfl hl)
      (slice_at (i := 2) (j := 4) rfl rfl (le_b (by kernel_rfl)) hl) (fr2 a2 a3) (sg16 a2 a3) (slice_at (i := 4) (j := 8) rfl rfl (le_b (by kernel_rfl)) hl) (fr4 a4 a5 a6 a7) (sg32 a4 a5 a6 a7) h co
  | false =>
    rw [hk] at co
    exact rd_unpack_narrow_er hL (len_bytes hl) (item_at (j := 0) (Int.add_zero _).symm rfl hl) (item_at (j := 1) rfl rfl hl)
      (slice_at (i := 2) (j := 4) rfl rfl (le_b (by kernel_rfl)) hl) (fr2 a2 a3) (sg16 a2 a3) (slice_at (i := 4) (j := 8) rfl rfl (le_b (by kernel_rfl)) hl) (fr4 a4 a5 a6 a7) (sg32 a4 a5 a6 a7) h co
noncomputable def zeroT (a8 a9 a10 a11 : UInt8) : Bool := iv a8 == 0 && (iv a9 == 0 && (iv a10 == 0 && iv a11 == 0))
noncomputable def upT (a12 a13 a14 a15 : UInt8) : Int := sgn 32 (le4 a12 a13 a14 a15)
theorem second16 {pre post : List UInt8} {at0 : Int} (hat : at0 = pre.length) (hl : (pre ++ (a8 :: a9 :: a10 :: a11 :: a12 :: a13 :: a14 :: a15 :: post)).length <= 100000) :
    F_second_half [.bytes (pre ++ (a8 :: a9 :: a10 :: a11 :: a12 :: a13 :: a14 :: a15 :: post)), .int at0] = if zeroT a8 a9 a10 a11 = true then .ok (.int (upT a12 a13 a14 a15)) else .err .none := by
  subst hat
  have hlen : (pre ++ (a8 :: a9 :: a10 :: a11 :: a12 :: a13 :: a14 :: a15 :: post)).length = pre.length + (post.length + 8) := by simp
  have hL : decide (8 <= (((pre ++ (a8 :: a9 :: a10 :: a11 :: a12 :: a13 :: a14 :: a15 :: post)).length : Nat) : Int) - pre.length) = true := decide_eq_true (by rw [hlen]; omega)
  have i0 := item_at (j := 0) (k := (pre.length : Int) + 0) rfl (b := a8) rfl hl
  have i1 := item_at (j := 1) (k := (pre.length : Int) + 1) rfl (b := a9) rfl hl
  have i2 := item_at (j := 2) (k := (pre.length : Int) + 2) rfl (b := a10) rfl hl
  have i3 := item_at (j := 3) (k := (pre.length : Int) + 3) rfl (b := a11) rfl hl
  unfold zeroT
  cases z0 : (iv a8 == 0) with
  | false => exact rd_second_0 hL (len_bytes hl) i0 i1 i2 i3 z0
  | true => cases z1 : (iv a9 == 0) with
    | false => exact rd_second_1 hL (len_bytes hl) i0 i1 i2 i3 z0 z1
    | true => cases z2 : (iv a10 == 0) with
      | false => exact rd_second_2 hL (len_bytes hl) i0 i1 i2 i3 z0 z1 z2
      | true => cases z3 : (iv a11 == 0) with
        | false => exact rd_second_3 hL (len_bytes hl) i0 i1 i2 i3 z0 z1 z2 z3
        | true => exact rd_second_4 hL (len_bytes hl) i0 i1 i2 i3 (slice_at (i := 4) (j := 8) rfl rfl (le_b (by kernel_rfl)) hl) (fr4 a12 a13 a14 a15) (sg32 a12 a13 a14 a15) z0 z1 z2 z3
theorem second_short {bs : List UInt8} {at0 : Int} (hl : bs.length <= 100000) (h : (bs.length : Int) - at0 < 8) : F_second_half [.bytes bs, .int at0] = .err .none :=
  rd_second_short (len_bytes hl) (decide_eq_false (Int.not_le.mpr h))
theorem unpack16 (h : (iv a0 == 24) = true) {pre post : List UInt8} (hl : (pre ++ (a0 :: a1 :: a2 :: a3 :: a4 :: a5 :: a6 :: a7 :: a8 :: a9 :: a10 :: a11 :: a12 :: a13 :: a14 :: a15 :: post)).length <= 100000) :
    F_unpack2 [.bytes (pre ++ (a0 :: a1 :: a2 :: a3 :: a4 :: a5 :: a6 :: a7 :: a8 :: a9 :: a10 :: a11 :: a12 :: a13 :: a14 :: a15 :: post)), .int pre.length] = if (zeroT a8 a9 a10 a11 && (okT a0 a1 a2 a3 a4 a5 a6 a7 && (iv a1 / 16 == 0 || upT a12 a13 a14 a15 == 0))) = true then .ok (.tuple [ordT a0 a1 a2 a3 a4 a5 a6 a7 (upT a12 a13 a14 a15), .int (pre.length + 8 + 8)]) else .err .none := by
  have hlen : (pre ++ (a0 :: a1 :: a2 :: a3 :: a4 :: a5 :: a6 :: a7 :: a8 :: a9 :: a10 :: a11 :: a12 :: a13 :: a14 :: a15 :: post)).length = pre.length + (post.length + 16) := by simp
  have hs := second16 (a8 := a8) (a9 := a9) (a10 := a10) (a11 := a11) (a12 := a12) (a13 := a13) (a14 := a14) (a15 := a15) (pre := pre ++ [a0, a1, a2, a3, a4, a5, a6, a7]) (post := post) (at0 := pre.length + 8) (by simp) (by rw [List.append_assoc]; exact hl)
  rw [List.append_assoc] at hs
  have HS : F_second_half [.bytes (pre ++ (a0 :: a1 :: a2 :: a3 :: a4 :: a5 :: a6 :: a7 :: a8 :: a9 :: a10 :: a11 :: a12 :: a13 :: a14 :: a15 :: post)), .int (pre.length + 8)] = if zeroT a8 a9 a10 a11 = true then .ok (.int (upT a12 a13 a14 a15)) else .err .none := hs
  clear hs
  have hc := co_wide (a1 := a1) (a2 := a2) (a3 := a3) (a4 := a4) (a5 := a5) (a6 := a6) (a7 := a7) h (m := upT a12 a13 a14 a15) (fits_sgn32 (le4_r a12 a13 a14 a15))
  have hL : decide (8 <= (((pre ++ (a0 :: a1 :: a2 :: a3 :: a4 :: a5 :: a6 :: a7 :: a8 :: a9 :: a10 :: a11 :: a12 :: a13 :: a14 :: a15 :: post)).length : Nat) : Int) - pre.length) = true := decide_eq_true (by rw [hlen]; omega)
  cases hz : zeroT a8 a9 a10 a11 with
  | true =>
    rw [hz] at HS
    cases hk : (okT a0 a1 a2 a3 a4 a5 a6 a7 && (iv a1 / 16 == 0 || upT a12 a13 a14 a15 == 0)) with
    | true =>
      rw [hk] at hc
      exact rd_unpack_wide_ok hL (len_bytes hl) (item_at (j := 0) (Int.add_zero _).symm rfl hl) (item_at (j := 1) rfl rfl hl)
        (slice_at (i := 2) (j := 4) rfl rfl (le_b (by kernel_rfl)) hl) (fr2 a2 a3) (sg16 a2 a3) (slice_at (i := 4) (j := 8) rfl rfl (le_b (by kernel_rfl)) hl) (fr4 a4 a5 a6 a7) (sg32 a4 a5 a6 a7) h HS hc
    | false =>
      rw [hk] at hc
      exact rd_unpack_wide_er hL (len_bytes hl) (item_at (j := 0) (Int.add_zero _).symm rfl hl) (item_at (j := 1) rfl rfl hl)
        (slice_at (i := 2) (j := 4) rfl rfl (le_b (by kernel_rfl)) hl) (fr2 a2 a3) (sg16 a2 a3) (slice_at (i := 4) (j := 8) rfl rfl (le_b (by kernel_rfl)) hl) (fr4 a4 a5 a6 a7) (sg32 a4 a5 a6 a7) h HS hc
  | false =>
    rw [hz] at HS
    exact rd_unpack_wide_err hL (len_bytes hl) (item_at (j := 0) (Int.add_zero _).symm rfl hl) (item_at (j := 1) rfl rfl hl)
      (slice_at (i := 2) (j := 4) rfl rfl (le_b (by kernel_rfl)) hl) (fr2 a2 a3) (sg16 a2 a3) (slice_at (i := 4) (j := 8) rfl rfl (le_b (by kernel_rfl)) hl) (fr4 a4 a5 a6 a7) (sg32 a4 a5 a6 a7) h HS
theorem unpack_short {bs : List UInt8} (hl : bs.length < 8) : F_unpack2 [.bytes bs, .int 0] = .err .none :=
  rd_unpack_short (len_bytes (by omega)) (decide_eq_false (by omega))
theorem unpack_half (h : (iv a0 == 24) = true) {post : List UInt8} (hp : post.length < 8) : F_unpack2 [.bytes (a0 :: a1 :: a2 :: a3 :: a4 :: a5 :: a6 :: a7 :: post), .int 0] = .err .none := by
  have hlen : (a0 :: a1 :: a2 :: a3 :: a4 :: a5 :: a6 :: a7 :: post).length = post.length + 8 := by simp
  have hl : (a0 :: a1 :: a2 :: a3 :: a4 :: a5 :: a6 :: a7 :: post).length <= 100000 := by omega
  exact rd_unpack_wide_err (at0 := 0) (decide_eq_true (by rw [hlen]; omega)) (len_bytes hl) (item_at (pre := []) (j := 0) rfl rfl hl) (item_at (pre := []) (j := 1) rfl rfl hl)
      (slice_at (pre := []) (i := 2) (j := 4) rfl rfl (by simp) hl) (fr2 a2 a3) (sg16 a2 a3) (slice_at (pre := []) (i := 4) (j := 8) rfl rfl (by simp) hl) (fr4 a4 a5 a6 a7) (sg32 a4 a5 a6 a7) h (second_short hl (by rw [hlen]; omega))
end
noncomputable def F_law_number (ps : List PV) : Out PV := fnP (GL []) 12 (fScope d_law_number.1) [Str.ofString "low", Str.ofString "size"] (fBody d_law_number.1) ps
noncomputable def F_law_due (ps : List PV) : Out PV := fnP (GL [("_law_number", F_law_number), ("_law_is", F_law_is), ("sum", sumP2)]) 12 (fScope d_law_due.1) [Str.ofString "octs"] (fBody d_law_due.1) ps
noncomputable def F_law_made_right (ps : List PV) : Out PV := fnP (GL [("_law_number", F_law_number), ("sum", sumP2), ("Order", ordP), ("check_order", F_check_order), ("pack", F_pack)]) 12 (fScope d_law_made_right.1) [Str.ofString "octs", Str.ofString "due"] (fBody d_law_made_right.1) ps
section
variable {a0 a1 a2 a3 a4 a5 a6 a7 a8 a9 a10 a11 a12 a13 a14 a15 : UInt8}
theorem num16 (a b : UInt8) : F_law_number [.int (iv a + 256 * iv b), .int 16] = .ok (.int (sgn 16 (le2 a b))) := by
  have e : iv a + 256 * iv b = le2 a b := by unfold iv le2; omega
  rw [e]; exact rd_law_number16 _
theorem num32 (w : Int) : F_law_number [.int w, .int 32] = .ok (.int (sgn 32 w)) := rd_law_number32 _
theorem p0 : (256 : Int) ^ Int.toNat 0 = 1 := by decide
theorem p1 : (256 : Int) ^ Int.toNat 1 = 256 := by decide
theorem p2 : (256 : Int) ^ Int.toNat 2 = 65536 := by decide
theorem p3 : (256 : Int) ^ Int.toNat 3 = 16777216 := by decide
theorem sum4 (a b c d : UInt8) : sumP2 [.list [.int (iv a * 256 ^ Int.toNat 0), .int (iv b * 256 ^ Int.toNat 1), .int (iv c * 256 ^ Int.toNat 2), .int (iv d * 256 ^ Int.toNat 3)]] = .ok (.int (le4 a b c d)) := by
  have e : [iv a * 256 ^ Int.toNat 0, iv b * 256 ^ Int.toNat 1, iv c * 256 ^ Int.toNat 2, iv d * 256 ^ Int.toNat 3].sum = le4 a b c d := by
    rw [p0, p1, p2, p3]
    simp only [List.sum_cons, List.sum_nil]
    unfold iv le4
    omega
  rw [<- e]
  generalize iv a * 256 ^ Int.toNat 0 = x0
  generalize iv b * 256 ^ Int.toNat 1 = x1
  generalize iv c * 256 ^ Int.toNat 2 = x2
  generalize iv d * 256 ^ Int.toNat 3 = x3
  rfl
theorem ne_of (h : (iv a0 == 24) = false) : (iv a0 != 24) = true := by unfold bne; rw [h]; rfl
theorem eq_of (h : (iv a0 == 24) = true) : (iv a0 != 24) = false := by unfold bne; rw [h]; rfl
theorem due8 (h : (iv a0 == 24) = false) : F_law_due [.list (octl [a0, a1, a2, a3, a4, a5, a6, a7])] = .ok (if okT a0 a1 a2 a3 a4 a5 a6 a7 = true then tupT a0 a1 a2 a3 a4 a5 a6 a7 0 else .none) := by
  have hi : F_law_is [.int (iv a0), .int (iv a1 % 16), .int (iv a1 / 16), .int (sgn 16 (le2 a2 a3)), .int (sgn 32 (le4 a4 a5 a6 a7))] = .ok (.bool (okT a0 a1 a2 a3 a4 a5 a6 a7)) := lf_law_is ..
  cases hk : okT a0 a1 a2 a3 a4 a5 a6 a7 with
  | true =>
    rw [hk] at hi
    exact rd_due8 (ne_of h) (num16 a2 a3) (sum4 a4 a5 a6 a7) (num32 _) hi
  | false =>
    rw [hk] at hi
    exact rd_due8_no (num16 a2 a3) (sum4 a4 a5 a6 a7) (num32 _) hi
theorem zero_ne : cmpop .NotEq (.list [.int (iv a8), .int (iv a9), .int (iv a10), .int (iv a11)]) (.list [.int 0, .int 0, .int 0, .int 0]) = .ok (.bool (!zeroT a8 a9 a10 a11)) := by
  have e : eqP (.list [.int (iv a8), .int (iv a9), .int (iv a10), .int (iv a11)]) (.list [.int 0, .int 0, .int 0, .int 0]) = some (zeroT a8 a9 a10 a11) := by
    show some (PyData.eqv (.list [.int (iv a8), .int (iv a9), .int (iv a10), .int (iv a11)]) (.list [.int 0, .int 0, .int 0, .int 0])) = _
    unfold zeroT
    simp [PyData.eqv, PyData.eqvAll]
  exact congrArg (fun o => (outOpt o).bind fun b => Out.ok (PV.bool (!b))) e
theorem ok24 (h : (iv a0 == 24) = true) (hk : okT a0 a1 a2 a3 a4 a5 a6 a7 = true) : (iv a1 / 16 == 1) = !(iv a1 / 16 == 0) := by
  unfold okT at hk
  rw [eq_of_beq h] at hk
  generalize iv a1 % 16 = d at hk
  generalize iv a1 / 16 = s at hk ⊢
  generalize sgn 16 (le2 a2 a3) = o at hk
  generalize sgn 32 (le4 a4 a5 a6 a7) = i at hk
  have e : L_law_is 24 d s o i = (if (decide (10 < d) || decide (10 < s)) = true then false else (([0, 1] : List Int).any (fun y => y == s) && o == 0)) := by kernel_rfl
  rw [e] at hk
  have hs : s = 0 \/ s = 1 := by
    by_cases q : (decide (10 < d) || decide (10 < s)) = true
    · rw [if_pos q] at hk; cases hk
    · rw [if_neg q] at hk
      simp at hk
      omega
  rcases hs with rfl | rfl <;> rfl
noncomputable def good16 (a0 a1 a2 a3 a4 a5 a6 a7 a8 a9 a10 a11 a12 a13 a14 a15 : UInt8) : Bool := zeroT a8 a9 a10 a11 && (okT a0 a1 a2 a3 a4 a5 a6 a7 && (iv a1 / 16 == 0 || upT a12 a13 a14 a15 == 0))
theorem due16 (h : (iv a0 == 24) = true) : F_law_due [.list (octl [a0, a1, a2, a3, a4, a5, a6, a7, a8, a9, a10, a11, a12, a13, a14, a15])] = .ok (if good16 a0 a1 a2 a3 a4 a5 a6 a7 a8 a9 a10 a11 a12 a13 a14 a15 = true then tupT a0 a1 a2 a3 a4 a5 a6 a7 (upT a12 a13 a14 a15) else .none) := by
  have hi : F_law_is [.int (iv a0), .int (iv a1 % 16), .int (iv a1 / 16), .int (sgn 16 (le2 a2 a3)), .int (sgn 32 (le4 a4 a5 a6 a7))] = .ok (.bool (okT a0 a1 a2 a3 a4 a5 a6 a7)) := lf_law_is ..
  unfold good16
  cases hk : okT a0 a1 a2 a3 a4 a5 a6 a7 with
  | true =>
    have hs := ok24 h hk
    rw [hk] at hi
    have hb : (!zeroT a8 a9 a10 a11 || (iv a1 / 16 == 1 && upT a12 a13 a14 a15 != 0)) = !(zeroT a8 a9 a10 a11 && (true && (iv a1 / 16 == 0 || upT a12 a13 a14 a15 == 0))) := by
      rw [hs, bne, Bool.true_and, Bool.not_and, Bool.not_or]
    cases hg : (zeroT a8 a9 a10 a11 && (true && (iv a1 / 16 == 0 || upT a12 a13 a14 a15 == 0))) with
    | true =>
      rw [hg] at hb
      exact rd_due16_f (eq_of h) (num16 a2 a3) (sum4 a4 a5 a6 a7) (num32 _) hi (sum4 a12 a13 a14 a15) (num32 _) zero_ne hb
    | false =>
      rw [hg] at hb
      exact rd_due16_t (eq_of h) (num16 a2 a3) (sum4 a4 a5 a6 a7) (num32 _) hi (sum4 a12 a13 a14 a15) (num32 _) zero_ne hb
  | false =>
    rw [hk] at hi
    refine (rd_due16_no (num16 a2 a3) (sum4 a4 a5 a6 a7) (num32 _) hi).trans ?_
    rw [Bool.false_and, Bool.and_false]
    rfl
theorem lit2 (a b : UInt8) : F_little [.int (sgn 16 (le2 a b)), .int 2] = .ok (.bytes [a, b]) := by
  have e1 : sgn 16 (le2 a b) % 256 = iv a := by
    unfold sgn le2 iv; have := a.toNat_lt; have := b.toNat_lt
    split <;> omega
  have e2 : sgn 16 (le2 a b) / 256 % 256 = iv b := by
    unfold sgn le2 iv; have := a.toNat_lt; have := b.toNat_lt
    split <;> omega
  refine (rd_little2 _).trans ?_
  rw [e1, e2, iv_u, iv_u]
theorem s32 {x y z t : Int} (hx : 0 <= x /\ x < 256) (hy : 0 <= y /\ y < 256) (hz : 0 <= z /\ z < 256) (ht : 0 <= t /\ t < 256) :
    sgn 32 (x + y * 256 + z * 65536 + t * 16777216) % 256 = x /\ sgn 32 (x + y * 256 + z * 65536 + t * 16777216) / 256 % 256 = y /\ sgn 32 (x + y * 256 + z * 65536 + t * 16777216) / 65536 % 256 = z /\ sgn 32 (x + y * 256 + z * 65536 + t * 16777216) / 16777216 % 256 = t := by
  have e : sgn 32 (x + y * 256 + z * 65536 + t * 16777216) = x + y * 256 + z * 65536 + t * 16777216 \/ sgn 32 (x + y * 256 + z * 65536 + t * 16777216) = x + y * 256 + z * 65536 + t * 16777216 - 4294967296 := by
    unfold sgn
    split
    · exact .inr rfl
    · exact .inl rfl
  generalize sgn 32 (x + y * 256 + z * 65536 + t * 16777216) = v at e ⊢
  rcases e with rfl | rfl
  · refine ⟨?_, ?_, ?_, ?_⟩ <;> omega
  · refine ⟨?_, ?_, ?_, ?_⟩ <;> omega
theorem lit4 (a b c d : UInt8) : F_little [.int (sgn 32 (le4 a b c d)), .int 4] = .ok (.bytes [a, b, c, d]) := by
  have h := s32 (iv_r a) (iv_r b) (iv_r c) (iv_r d)
  have e : le4 a b c d = iv a + iv b * 256 + iv c * 65536 + iv d * 16777216 := rfl
  rw [<- e] at h
  generalize sgn 32 (le4 a b c d) = v at h ⊢
  refine (rd_little4 v).trans ?_
  rw [h.1, h.2.1, h.2.2.1, h.2.2.2, iv_u, iv_u, iv_u, iv_u]
theorem by_head (a0 a1 : UInt8) : bytesP [.list [.int (iv a0), .int (iv a1 / 16 * 16 + iv a1 % 16)]] = .ok (.bytes [a0, a1]) := by
  have e : iv a1 / 16 * 16 + iv a1 % 16 = iv a1 := by omega
  rw [e]
  exact bytes_ints (r := [a0, a1]) (le_b (by kernel_rfl))
theorem pack8 (h : (iv a0 == 24) = false) (hk : okT a0 a1 a2 a3 a4 a5 a6 a7 = true) : F_pack [ordT a0 a1 a2 a3 a4 a5 a6 a7 0] = .ok (.bytes [a0, a1, a2, a3, a4, a5, a6, a7]) := by
  have hc := co_narrow (a1 := a1) (a2 := a2) (a3 := a3) (a4 := a4) (a5 := a5) (a6 := a6) (a7 := a7) h
  rw [hk] at hc
  exact rd_pack_narrow h hc (by_head a0 a1) (lit2 a2 a3) (lit4 a4 a5 a6 a7) (le_b (by kernel_rfl)) (le_b (by kernel_rfl))
theorem pack16 (h : (iv a0 == 24) = true) (hk : good16 a0 a1 a2 a3 a4 a5 a6 a7 a8 a9 a10 a11 a12 a13 a14 a15 = true) : F_pack [ordT a0 a1 a2 a3 a4 a5 a6 a7 (upT a12 a13 a14 a15)] = .ok (.bytes [a0, a1, a2, a3, a4, a5, a6, a7, a8, a9, a10, a11, a12, a13, a14, a15]) := by
  have hc := co_wide (a1 := a1) (a2 := a2) (a3 := a3) (a4 := a4) (a5 := a5) (a6 := a6) (a7 := a7) h (m := upT a12 a13 a14 a15) (fits_sgn32 (le4_r a12 a13 a14 a15))
  unfold good16 at hk
  obtain ⟨hz, hk⟩ := Bool.and_eq_true_iff.mp hk
  rw [hk] at hc
  have hz4 : bytesP [.list [.int 0, .int 0, .int 0, .int 0]] = .ok (.bytes [a8, a9, a10, a11]) := by
    unfold zeroT at hz
    simp only [Bool.and_eq_true, beq_iff_eq] at hz
    have := bytes_ints (r := [a8, a9, a10, a11]) (le_b (by kernel_rfl))
    unfold octl at this
    simp only [List.map_cons, List.map_nil, hz.1, hz.2.1, hz.2.2.1, hz.2.2.2] at this
    exact this
  exact rd_pack_wide h hc (by_head a0 a1) (lit2 a2 a3) (lit4 a4 a5 a6 a7) (le_b (by kernel_rfl)) (le_b (by kernel_rfl)) hz4 (lit4 a12 a13 a14 a15) (le_b (by kernel_rfl)) (le_b (by kernel_rfl))
theorem pack_no {c d s o i m : Int} (h : F_check_order [.ord c d s o i m] = .err .none) : F_pack [.ord c d s o i m] = .err .none := rd_pack_err h
end
noncomputable def F_law_row_right (ps : List PV) : Out PV := fnP (GL [("unpack", F_unpack), ("bytes", bytesP), ("len", lenP), ("Order", ordP), ("pack", F_pack), ("check_order", F_check_order)]) 12 (fScope d_law_row_right.1) [Str.ofString "octs", Str.ofString "due", Str.ofString "ahead"] (fBody d_law_row_right.1) ps
inductive RowIs (r : List UInt8) : PV -> Prop
  | good (c d s o i m : Int) (u : ∀ pre post : List UInt8, (pre ++ (r ++ post)).length <= 100000 -> F_unpack2 [.bytes (pre ++ (r ++ post)), .int pre.length] = .ok (.tuple [.ord c d s o i m, .int (pre.length + r.length)])) (co : F_check_order [.ord c d s o i m] = .ok (.ord c d s o i m)) (pk : F_pack [.ord c d s o i m] = .ok (.bytes r)) : RowIs r (.tuple [.int c, .int d, .int s, .int o, .int i, .int m])
  | bad (u : ∀ pre post : List UInt8, (pre ++ (r ++ post)).length <= 100000 -> F_unpack2 [.bytes (pre ++ (r ++ post)), .int pre.length] = .err .none) (md : F_law_made_right [.list (octl r), .none] = .ok (.bool true)) : RowIs r .none
theorem row_is {r : List UInt8} (R : Row r) : ∃ dv, F_law_due [.list (octl r)] = .ok dv /\ RowIs r dv := by
  rcases R with ⟨a0, a1, a2, a3, a4, a5, a6, a7, rfl, h⟩ | ⟨a0, a1, a2, a3, a4, a5, a6, a7, a8, a9, a10, a11, a12, a13, a14, a15, rfl, h⟩
  · refine ⟨_, due8 h, ?_⟩
    have hc := co_narrow (a1 := a1) (a2 := a2) (a3 := a3) (a4 := a4) (a5 := a5) (a6 := a6) (a7 := a7) h
    cases hk : okT a0 a1 a2 a3 a4 a5 a6 a7 with
    | true =>
      rw [hk] at hc
      refine .good _ _ _ _ _ _ (fun pre post hl => ?_) hc (pack8 h hk)
      refine (unpack8 h hl).trans ?_
      rw [hk]; rfl
    | false =>
      rw [hk] at hc
      refine .bad (fun pre post hl => ?_) (rd_made8 h (num16 a2 a3) (sum4 a4 a5 a6 a7) (num32 _) rfl hc (pack_no hc))
      refine (unpack8 h hl).trans ?_
      rw [hk]; rfl
  · refine ⟨_, due16 h, ?_⟩
    have hc := co_wide (a1 := a1) (a2 := a2) (a3 := a3) (a4 := a4) (a5 := a5) (a6 := a6) (a7 := a7) h (m := upT a12 a13 a14 a15) (fits_sgn32 (le4_r a12 a13 a14 a15))
    cases hk : good16 a0 a1 a2 a3 a4 a5 a6 a7 a8 a9 a10 a11 a12 a13 a14 a15 with
    | true =>
      have hk2 := hk
      unfold good16 at hk2
      rw [(Bool.and_eq_true_iff.mp hk2).2] at hc
      refine .good _ _ _ _ _ _ (fun pre post hl => ?_) hc (pack16 h hk)
      refine (unpack16 h hl).trans ?_
      rw [hk2]
      show Out.ok (PV.tuple [_, .int ((pre.length : Int) + 8 + 8)]) = .ok (PV.tuple [_, .int ((pre.length : Int) + (16 : Nat))])
      rw [Int.add_assoc]; rfl
    | false =>
      have hk2 := hk
      unfold good16 at hk2
      refine .bad (fun pre post hl => ?_) ?_
      · refine (unpack16 h hl).trans ?_
        rw [hk2]; rfl
      have zn := zero_ne (a8 := a8) (a9 := a9) (a10 := a10) (a11 := a11)
      cases hz : zeroT a8 a9 a10 a11 with
      | false =>
        rw [hz] at zn
        exact rd_made16_t h zn
      | true =>
        rw [hz] at zn
        rw [hz, Bool.true_and] at hk2
        rw [hk2] at hc
        exact rd_made16_f h (num16 a2 a3) (sum4 a4 a5 a6 a7) (num32 _) (sum4 a12 a13 a14 a15) (num32 _) zn rfl hc (pack_no hc)
theorem row_cut {r : List UInt8} (R : Row r) {k : Nat} (hk : k < r.length) : F_unpack2 [.bytes (r.take k), .int 0] = .err .none := by
  by_cases h8 : k < 8
  · exact unpack_short (by rw [List.length_take]; omega)
  rcases R with ⟨a0, a1, a2, a3, a4, a5, a6, a7, rfl, h⟩ | ⟨a0, a1, a2, a3, a4, a5, a6, a7, a8, a9, a10, a11, a12, a13, a14, a15, rfl, h⟩
  · exact (h8 hk).elim
  · obtain ⟨j, rfl⟩ : ∃ j, k = j + 8 := ⟨k - 8, by omega⟩
    exact unpack_half h (post := [a8, a9, a10, a11, a12, a13, a14, a15].take j) (by rw [List.length_take]; have : j + 8 < 16 := hk; omega)
theorem row_len {r : List UInt8} (R : Row r) : 0 < r.length /\ r.length <= 16 /\ ∃ x4 x1, itemP (.list (octl r)) (.int 4) = .ok (.int x4) /\ itemP (.list (octl r)) (.int 1) = .ok (.int (iv x1)) := by
  rcases R with ⟨a0, a1, a2, a3, a4, a5, a6, a7, rfl, h⟩ | ⟨a0, a1, a2, a3, a4, a5, a6, a7, a8, a9, a10, a11, a12, a13, a14, a15, rfl, h⟩
  · exact ⟨le_b (by kernel_rfl), le_b (by kernel_rfl), _, a1, rfl, rfl⟩
  · exact ⟨le_b (by kernel_rfl), le_b (by kernel_rfl), _, a1, rfl, rfl⟩
theorem octl_len (r : List UInt8) : (octl r).length = r.length := List.length_map ..
theorem slice_cut {r : List UInt8} {k : Int} (h0 : 0 <= k) (h1 : k < r.length) (hl : r.length <= 100000) : sliceP (.bytes r) .none (.int k) = .ok (.bytes (r.take k.toNat)) := by
  have e2 : kms_hi (some k) r.length = k.toNat := by
    unfold kms_hi; dsimp only
    rw [if_neg (by omega)]
    omega
  unfold sliceP
  rw [partP_int h0]
  refine (if_pos hl).trans ?_
  unfold cutP
  rw [e2]; rfl
theorem row_right {r ah : List UInt8} {dv : PV} (R : Row r) (I : RowIs r dv) (ha : ah.length <= 1000) : F_law_row_right [.list (octl r), dv, .list (octl ah)] = .ok (.bool true) := by
  obtain ⟨h0, h16, x4, x1, e4, e1⟩ := row_len R
  have hn : ¬ ((r.length : Nat) : Int) = 0 := by omega
  have hm : binop .Mod (.int (x4 + iv x1)) (.int r.length) = .ok (.int ((x4 + iv x1) % r.length)) := bmod (by omega)
  have k0 := Int.emod_nonneg (x4 + iv x1) hn
  have k1 := Int.emod_lt_of_pos (x4 + iv x1) (show (0 : Int) < r.length by omega)
  have hx : lenP [.list (octl r)] = .ok (.int r.length) := (if_pos (by rw [octl_len]; omega)).trans (by rw [octl_len])
  have hla : lenP [.list (octl ah)] = .ok (.int ah.length) := (if_pos (by rw [octl_len]; omega)).trans (by rw [octl_len])
  have hcut : F_unpack [.bytes (r.take ((x4 + iv x1) % r.length).toNat)] = .err .none := row_cut R (by omega)
  have hL : (ah ++ (r ++ ah)).length <= 100000 := by rw [List.length_append, List.length_append]; omega
  have e : ah ++ r ++ ah = ah ++ (r ++ ah) := List.append_assoc ..
  have er : ([] : List UInt8) ++ (r ++ []) = r := by simp
  cases I with
  | good c d s o i m u co pk =>
    have u0 := u [] [] (by rw [er]; omega)
    rw [er] at u0
    refine rd_row_yes (bytes_ints (by omega)) (bytes_ints (by omega)) (by omega) (by rw [List.length_append]; omega) hla hx e4 e1 hm (slice_cut k0 k1 (by omega)) hcut ?_ (by rw [e, Int.add_comm]; exact u ah ah hL) rfl pk co
    refine u0.trans ?_
    show Out.ok (PV.tuple [_, .int (((0 : Nat) : Int) + _)]) = _
    rw [Int.natCast_zero, Int.zero_add]
  | bad u md =>
    have u0 := u [] [] (by rw [er]; omega)
    rw [er] at u0
    exact rd_row_no (bytes_ints (by omega)) (bytes_ints (by omega)) (by omega) (by rw [List.length_append]; omega) hla hx e4 e1 hm (slice_cut k0 k1 (by omega)) hcut u0 (by rw [e]; exact u ah ah hL)
theorem made_right {r : List UInt8} {dv : PV} (I : RowIs r dv) : F_law_made_right [.list (octl r), dv] = .ok (.bool true) := by
  cases I with
  | good => exact rd_made_skip
  | bad _ md => exact md
noncomputable def Is6 (v : PV) : Prop := ∃ c d s o i m : Int, v = .tuple [.int c, .int d, .int s, .int o, .int i, .int m]
noncomputable def ordOf (v : PV) : PV := match v with
  | .tuple [.int c, .int d, .int s, .int o, .int i, .int m] => .ord c d s o i m
  | _ => .none
theorem toPys6 : ∀ ds : List PV, (∀ v ∈ ds, Is6 v) -> ∃ q, toPys ds = some q /\ PyData.canLayAll0 q = true /\ PyData.depthAll q <= 1
  | [], _ => ⟨[], rfl, rfl, Nat.zero_le _⟩
  | v :: r, h => by
    obtain ⟨q, h1, h2, h3⟩ := toPys6 r fun u hu => h u (.tail _ hu)
    obtain ⟨c, d, s, o, i, m, rfl⟩ := h v (.head _)
    refine ⟨.tuple [.int c, .int d, .int s, .int o, .int i, .int m] :: q, ?_, ?_, ?_⟩
    · unfold toPys
      rw [h1]; rfl
    · unfold PyData.canLayAll0
      rw [h2]; rfl
    · unfold PyData.depthAll
      exact Nat.max_le.mpr ⟨Nat.le_refl 1, h3⟩
theorem ne6 {ds : List PV} (h : ∀ v ∈ ds, Is6 v) : cmpop .NotEq (.list ds) (.list ds) = .ok (.bool false) := by
  obtain ⟨q, h1, h2, h3⟩ := toPys6 ds h
  have e0 : toPy (.list ds) = some (.list q) := by unfold toPy; rw [h1]; rfl
  have hs : SeqAt.shaped (.list q) = true := by
    unfold SeqAt.shaped
    rw [Bool.and_eq_true, decide_eq_true_eq]
    refine ⟨by unfold PyData.canLay0; exact h2, ?_⟩
    unfold PyData.depth
    omega
  have e : eqP (.list ds) (.list ds) = some true := by
    unfold eqP
    rw [e0]
    dsimp only
    rw [if_pos ⟨hs, hs⟩, SeqAt.eqv_refl _ (SeqAt.canLay_of_shaped hs)]
  exact congrArg (fun o => (outOpt o).bind fun b => Out.ok (PV.bool (!b))) e
noncomputable def dueV (r : List UInt8) : PV := match F_law_due [.list (octl r)] with
  | .ok v => v
  | _ => .none
theorem dueV_is {r : List UInt8} (R : Row r) : F_law_due [.list (octl r)] = .ok (dueV r) /\ RowIs r (dueV r) := by
  obtain ⟨dv, h1, h2⟩ := row_is R
  have e : dueV r = dv := by unfold dueV; rw [h1]
  rw [e]; exact ⟨h1, h2⟩
noncomputable def uaR : List (List UInt8) -> List PV -> Out PV
  | [], acc => .ok (.list acc)
  | r :: rs, acc => if isT (dueV r) then uaR rs (acc ++ [ordOf (dueV r)]) else .err (.int acc.length)
theorem goU_rows : ∀ (rs : List (List UInt8)), (∀ r ∈ rs, Row r) -> ∀ (pre : List UInt8) (acc : List PV) (k : Nat), rs.length < k -> (pre ++ rs.flatten).length <= 100000 ->
    goU F_unpack (pre ++ rs.flatten) k pre.length acc = uaR rs acc
  | [], _, pre, acc, k + 1, _, _ => by
    rw [goU_succ, if_neg (by simp)]; rfl
  | r :: rs, hR, pre, acc, k + 1, hk, hl => by
    have R := hR r (.head _)
    have h0 := (row_len R).1
    have I := (dueV_is R).2
    rw [List.flatten_cons] at hl ⊢
    rw [goU_succ, if_pos (by rw [List.length_append, List.length_append]; omega)]
    unfold uaR
    have e2 : F_unpack [.bytes (pre ++ (r ++ rs.flatten)), .int pre.length] = F_unpack2 [.bytes (pre ++ (r ++ rs.flatten)), .int pre.length] := rfl
    rw [e2]
    generalize hd : dueV r = dv at I ⊢
    cases I with
    | good c d s o i m u co pk =>
      rw [u pre rs.flatten hl]
      dsimp only
      have e3 : ((pre.length : Int) + r.length) = ((pre ++ r).length : Nat) := by rw [List.length_append]; omega
      rw [e3, <- List.append_assoc]
      rw [goU_rows rs (fun x hx => hR x (.tail _ hx)) (pre ++ r) _ k (Nat.lt_of_succ_lt_succ hk) (by rw [List.append_assoc]; exact hl)]
      rfl
    | bad u md =>
      rw [u pre rs.flatten hl]
      rfl
theorem uaR_good : ∀ (rs : List (List UInt8)), (∀ r ∈ rs, isT (dueV r) = true) -> ∀ acc, uaR rs acc = .ok (.list (acc ++ rs.map fun r => ordOf (dueV r)))
  | [], _, acc => by unfold uaR; simp
  | r :: rs, h, acc => by
    unfold uaR
    rw [if_pos (h r (.head _)), uaR_good rs (fun x hx => h x (.tail _ hx)), List.map_cons, List.append_assoc]; rfl
theorem dueV_not {r : List UInt8} (R : Row r) (h : isT (dueV r) = false) : dueV r = .none := by
  have I := (dueV_is R).2
  generalize dueV r = dv at I h ⊢
  cases I with
  | good => cases h
  | bad => rfl
theorem dueV_six {r : List UInt8} (R : Row r) (h : isT (dueV r) = true) : Is6 (dueV r) := by
  have I := (dueV_is R).2
  generalize dueV r = dv at I h ⊢
  cases I with
  | good c d s o i m => exact ⟨c, d, s, o, i, m, rfl⟩
  | bad => cases h
theorem uaR_bad : ∀ (rs : List (List UInt8)), (∀ r ∈ rs, Row r) -> (∃ r ∈ rs, isT (dueV r) = false) -> ∀ acc, ∃ k, uaR rs acc = .err (.int ((acc.length + k : Nat) : Int)) /\ idxNone (rs.map dueV) = some k
  | [], _, h, _ => by obtain ⟨r, hr, _⟩ := h; cases hr
  | r :: rs, hR, h, acc => by
    cases ht : isT (dueV r) with
    | true =>
      have h2 : ∃ r ∈ rs, isT (dueV r) = false := by
        obtain ⟨x, hx, he⟩ := h
        cases hx with
        | head => rw [ht] at he; cases he
        | tail _ hx => exact ⟨x, hx, he⟩
      obtain ⟨k, e1, e2⟩ := uaR_bad rs (fun x hx => hR x (.tail _ hx)) h2 (acc ++ [ordOf (dueV r)])
      refine ⟨k + 1, ?_, ?_⟩
      · unfold uaR
        rw [if_pos ht, e1, List.length_append]
        have : acc.length + [ordOf (dueV r)].length + k = acc.length + (k + 1) := by simp; omega
        rw [this]
      · obtain ⟨c, d, s, o, i, m, e⟩ := dueV_six (hR r (.head _)) ht
        rw [List.map_cons, e]
        unfold idxNone
        rw [e2]; rfl
    | false =>
      refine ⟨0, ?_, ?_⟩
      · unfold uaR
        rw [if_neg (by rw [ht]; exact Bool.false_ne_true)]; rfl
      · rw [List.map_cons, dueV_not (hR r (.head _)) ht]; rfl
theorem catP_rows : ∀ (rs : List (List UInt8)) (acc : List UInt8), (acc ++ rs.flatten).length <= 100000 -> catP (octl acc) (rs.map fun r => .list (octl r)) = some (octl (acc ++ rs.flatten))
  | [], acc, _ => by rw [List.flatten_nil, List.append_nil]; rfl
  | r :: rs, acc, h => by
    rw [List.flatten_cons, <- List.append_assoc] at h ⊢
    rw [List.map_cons]
    have h2 := h
    rw [List.length_append, List.length_append] at h2
    show (if (octl acc).length + (octl r).length <= 100000 then catP (octl acc ++ octl r) _ else none) = _
    rw [if_pos (by rw [octl_len, octl_len]; omega)]
    have e : octl acc ++ octl r = octl (acc ++ r) := (List.map_append ..).symm
    rw [e]
    exact catP_rows rs (acc ++ r) h
theorem packs_rows : ∀ (rs : List (List UInt8)), (∀ r ∈ rs, Row r) -> (∀ r ∈ rs, isT (dueV r) = true) -> packsP F_pack (rs.map fun r => ordOf (dueV r)) = some rs.flatten
  | [], _, _ => rfl
  | r :: rs, hR, h => by
    have I := (dueV_is (hR r (.head _))).2
    have ht := h r (.head _)
    rw [List.map_cons]
    unfold packsP
    have hp : F_pack [ordOf (dueV r)] = .ok (.bytes r) := by
      generalize dueV r = dv at I ht ⊢
      cases I with
      | good c d s o i m u co pk => exact pk
      | bad => cases ht
    rw [hp]
    dsimp only
    rw [packs_rows rs (fun x hx => hR x (.tail _ hx)) (fun x hx => h x (.tail _ hx))]; rfl
theorem flat_len : ∀ (rs : List (List UInt8)), (∀ r ∈ rs, Row r) -> rs.flatten.length <= 16 * rs.length
  | [], _ => Nat.le_refl _
  | r :: rs, hR => by
    have h1 := flat_len rs fun x hx => hR x (.tail _ hx)
    have h2 := (row_len (hR r (.head _))).2.1
    rw [List.flatten_cons, List.length_append, List.length_cons]
    omega
theorem flat_ge : ∀ (rs : List (List UInt8)), (∀ r ∈ rs, Row r) -> rs.length <= rs.flatten.length
  | [], _ => Nat.le_refl _
  | r :: rs, hR => by
    have h1 := flat_ge rs fun x hx => hR x (.tail _ hx)
    have h2 := (row_len (hR r (.head _))).1
    rw [List.flatten_cons, List.length_append, List.length_cons]
    omega
noncomputable def codesL : List Int := [24, 24, 24, 212, 220, 215, 223, 133, 149, 5, 6, 13, 132, 135, 143, 183, 180, 191, 188, 63, 55, 52, 151, 156, 103, 100, 119, 116, 199, 196, 207, 7, 15, 28, 47, 172, 21, 29, 69, 78, 214, 221, 141, 134, 150, 229, 97, 105, 113, 121, 129, 137, 145, 153, 98, 106, 114, 122, 130, 99, 107, 115, 123, 195, 219, 203, 211, 32, 48, 64, 0, 231]
theorem codesL_len : codesL.length = 72 := by kernel_rfl
theorem codesL_byte : (codesL.all fun x => decide (0 <= x) && decide (x < 256)) = true := by kernel_rfl
theorem rd_law_codes : fnP (GL []) 12 (fScope d_law_codes.1) [] (fBody d_law_codes.1) [] = .ok (.list (codesL.map .int)) := by kernel_rfl
noncomputable def F_law_codes (ps : List PV) : Out PV := fnP (GL []) 12 (fScope d_law_codes.1) [] (fBody d_law_codes.1) ps
noncomputable def F_law_row (ps : List PV) : Out PV := fnP (Grow F_law_codes lenP) 12 (fScope d_law_row.1) [Str.ofString "cell"] (fBody d_law_row.1) ps
noncomputable def GLaw : Gl := Glaw F_law_row F_law_due F_law_row_right F_law_made_right bytesP sumP2 (uaP F_unpack) lenP ordP
theorem len_l {xs : List PV} (h : xs.length <= 100000) : lenP [.list xs] = .ok (.int xs.length) := if_pos h
theorem codes_len : lenP [.list (codesL.map .int)] = .ok (.int 72) := by
  rw [len_l (by rw [List.length_map, codesL_len]; decide), List.length_map, codesL_len]; rfl
theorem codes_item (x : Int) : itemP (.list (codesL.map .int)) (.int (x % 72)) = .ok (.int (pick codesL x)) := by
  have h := pick_item codesL x (by rw [codesL_len]; decide) (by rw [codesL_len]; decide)
  have e : ((codesL.length : Nat) : Int) = 72 := by rw [codesL_len]; rfl
  rw [e] at h
  exact h
theorem codes_r (x : Int) : 0 <= pick codesL x /\ pick codesL x < 256 := by
  have h := pick_mem (l := codesL) (by rw [codesL_len]; decide) x
  have h2 := List.all_eq_true.mp codesL_byte _ h
  rw [Bool.and_eq_true, decide_eq_true_eq, decide_eq_true_eq] at h2
  exact h2
theorem row_of (c : Int) : ∃ r, F_law_row [.int c] = .ok (.list (octl r)) /\ Row r := by
  obtain ⟨xs, h1, h2⟩ := law_row_ok (Fcd := F_law_codes) (Fle := lenP) rd_law_codes codes_len codes_item codes_r c
  obtain ⟨r, e, R⟩ := h2.row
  rw [e] at h1
  exact ⟨r, h1, R⟩
noncomputable def rowB (c : Int) : List UInt8 := Classical.choose (row_of c)
theorem rowB_is (c : Int) : F_law_row [.int c] = .ok (.list (octl (rowB c))) /\ Row (rowB c) := Classical.choose_spec (row_of c)
theorem slice_l {xs : List PV} {k : Int} (h : 0 <= k) (hl : xs.length <= 100000) : sliceP (.list xs) .none (.int k) = .ok (.list (xs.take k.toNat)) := by
  have e2 : kms_hi (some k) xs.length = min k.toNat xs.length := by
    unfold kms_hi; dsimp only
    rw [if_neg (by omega)]
  unfold sliceP
  rw [partP_int h]
  refine (if_pos hl).trans ?_
  unfold cutP
  rw [e2]
  show Out.ok (PV.list (xs.take (min k.toNat xs.length))) = _
  by_cases q : k.toNat <= xs.length
  · rw [Nat.min_eq_left q]
  · rw [Nat.min_eq_right (by omega), List.take_length, List.take_of_length_le (by omega)]
theorem row_b1 {r : List UInt8} (R : Row r) : itemP (.list (octl r)) (.int 1) = .ok (.int (iv (r.getD 1 0))) := by
  rcases R with ⟨a0, a1, a2, a3, a4, a5, a6, a7, rfl, h⟩ | ⟨a0, a1, a2, a3, a4, a5, a6, a7, a8, a9, a10, a11, a12, a13, a14, a15, rfl, h⟩
  · rfl
  · rfl
noncomputable def vl (r : List UInt8) : PV := .list (octl r)
theorem keep_all : ∀ (ds : List PV), (∀ v ∈ ds, isT v = true) -> ds.filterMap gk = ds
  | [], _ => rfl
  | v :: r, h => by
    rw [List.filterMap_cons]
    have e : gk v = some v := by unfold gk; rw [if_pos (h v (.head _))]
    rw [e, keep_all r fun u hu => h u (.tail _ hu)]
theorem keep_few : ∀ (ds : List PV), (∃ v ∈ ds, isT v = false) -> (ds.filterMap gk).length < ds.length
  | [], h => by obtain ⟨v, hv, _⟩ := h; cases hv
  | v :: r, h => by
    rw [List.filterMap_cons]
    cases ht : isT v with
    | true =>
      have e : gk v = some v := by unfold gk; rw [if_pos ht]
      rw [e]
      have h2 : ∃ u ∈ r, isT u = false := by
        obtain ⟨x, hx, he⟩ := h
        cases hx with
        | head => rw [ht] at he; cases he
        | tail _ hx => exact ⟨x, hx, he⟩
      exact Nat.succ_lt_succ (keep_few r h2)
    | false =>
      have e : gk v = none := by unfold gk; rw [if_neg (by rw [ht]; exact Bool.false_ne_true)]
      rw [e]
      exact Nat.lt_succ_of_le (List.length_filterMap_le gk r)
theorem zip_rows : ∀ (rs : List (List UInt8)), List.zipWith (fun x y => PV.tuple [x, y]) (rs.map vl) (rs.map dueV) = rs.map fun r => .tuple [vl r, dueV r]
  | [] => rfl
  | r :: rs => by rw [List.map_cons, List.map_cons, List.zipWith_cons_cons, zip_rows rs]; rfl
theorem octl_take (rs : List (List UInt8)) (h : ∀ r ∈ rs, Row r) : (rs.map vl).map (fun v => valOf (itemP v (.int 1))) = octl (rs.map fun r => r.getD 1 0) := by
  unfold octl
  rw [List.map_map, List.map_map]
  refine List.map_congr_left fun r hr => ?_
  show valOf (itemP (.list (octl r)) (.int 1)) = _
  rw [row_b1 (h r hr)]; rfl
theorem due_tf (ds : List PV) (h : ∀ v ∈ ds, isT v = true \/ v = .none) : ds.all noneOrTup = true := by
  rw [List.all_eq_true]
  intro v hv
  rcases h v hv with h | h
  · cases v <;> first | rfl | cases h
  · rw [h]; rfl
noncomputable def E3 (ah : List UInt8) (rs : List (List UInt8)) (x0 : PV) : Vars := [("ahead", .list (octl ah)), ("dues", .list (rs.map dueV)), ("rows", .list (rs.map vl)), ("script", x0)]
theorem law_first (cells : List Int) (hc : cells.length <= 63) : ∃ ah rs σ, (∀ r ∈ rs, Row r) /\ rs.length <= 14 /\ exB (run GLaw 11) (fScope d_law.1) [sAt bLaw 0, sAt bLaw 1, sAt bLaw 2, sAt bLaw 3] [("script", .list (cells.map .int))] = .ok (.next σ) /\ okE (E3 ah rs (.list (cells.map .int))) σ := by
  have hN : (cells.take 14).length <= 14 := by rw [List.length_take]; omega
  generalize hcs : cells.take 14 = cs at hN
  have hR : ∀ r ∈ cs.map rowB, Row r := by
    intro r hr
    obtain ⟨c, _, rfl⟩ := List.mem_map.mp hr
    exact (rowB_is c).2
  have hrs : (cs.map rowB).length <= 14 := by rw [List.length_map]; exact hN
  have e0 := law_0 (Frw := F_law_row) (Fdu := F_law_due) (Frr := F_law_row_right) (Fmr := F_law_made_right) (Fby := bytesP) (Fsu := sumP2) (Fua := uaP F_unpack) (Fle := lenP) (For := ordP) (ss := cells.map .int) (cs := cs.map .int) (rf := fun v => valOf (F_law_row [v]))
    (by rw [slice_l (by decide) (by rw [List.length_map]; omega), <- hcs, List.map_take]; rfl) (by rw [List.length_map]; omega) (by
      intro v hv
      obtain ⟨c, _, rfl⟩ := List.mem_map.mp hv
      rw [(rowB_is c).1]; rfl)
  have r0 : (cs.map PV.int).map (fun v => valOf (F_law_row [v])) = (cs.map rowB).map vl := by
    rw [List.map_map, List.map_map]
    refine List.map_congr_left fun c _ => ?_
    show valOf (F_law_row [.int c]) = _
    rw [(rowB_is c).1]; rfl
  rw [r0] at e0
  generalize cs.map rowB = rs at hR hrs e0
  have e1 := law_1 (Frw := F_law_row) (Fdu := F_law_due) (Frr := F_law_row_right) (Fmr := F_law_made_right) (Fby := bytesP) (Fsu := sumP2) (Fua := uaP F_unpack) (Fle := lenP) (For := ordP) (rs := rs.map vl) (x0 := .list (cells.map .int)) (df := fun v => valOf (F_law_due [v])) (by rw [List.length_map]; omega) (by
    intro v hv
    obtain ⟨r, hr, rfl⟩ := List.mem_map.mp hv
    show F_law_due [.list (octl r)] = _
    rw [show valOf (F_law_due [vl r]) = dueV r from rfl]
    exact (dueV_is (hR r hr)).1)
  have r1 : (rs.map vl).map (fun v => valOf (F_law_due [v])) = rs.map dueV := by rw [List.map_map]; rfl
  rw [r1] at e1
  have h3 : (rs.take 3).length <= 3 := by rw [List.length_take]; omega
  have e2 := law_2 (Frw := F_law_row) (Fdu := F_law_due) (Frr := F_law_row_right) (Fmr := F_law_made_right) (Fby := bytesP) (Fsu := sumP2) (Fua := uaP F_unpack) (Fle := lenP) (For := ordP) (rs := rs.map vl) (r3 := (rs.take 3).map vl) (x0 := .list (cells.map .int)) (x1 := .list (rs.map dueV)) (af := fun v => valOf (itemP v (.int 1)))
    (by rw [slice_l (by decide) (by rw [List.length_map]; omega), List.map_take]; rfl) (by rw [List.length_map]; omega) (by
      intro v hv
      obtain ⟨r, hr, rfl⟩ := List.mem_map.mp hv
      show itemP (.list (octl r)) (.int 1) = .ok (valOf (itemP (.list (octl r)) (.int 1)))
      rw [row_b1 (hR r (List.mem_of_mem_take hr))]; rfl)
  rw [octl_take _ fun r hr => hR r (List.mem_of_mem_take hr)] at e2
  have hah : ((rs.take 3).map fun r => r.getD 1 0).length <= 1000 := by rw [List.length_map]; omega
  generalize ((rs.take 3).map fun r => r.getD 1 0) = ah at e2 hah
  obtain ⟨σ, e3, hs⟩ := law_3 (Frw := F_law_row) (Fdu := F_law_due) (Frr := F_law_row_right) (Fmr := F_law_made_right) (Fby := bytesP) (Fsu := sumP2) (Fua := uaP F_unpack) (Fle := lenP) (For := ordP) (as := octl ah) (ds := rs.map dueV) (rs := rs.map vl) (x0 := .list (cells.map .int)) (by rw [List.length_map, List.length_map]) (by
    intro v hv
    rw [zip_rows] at hv
    obtain ⟨r, hr, rfl⟩ := List.mem_map.mp hv
    exact ⟨_, _, rfl, row_right (hR r hr) (dueV_is (hR r hr)).2 hah, made_right (dueV_is (hR r hr)).2⟩)
  refine ⟨ah, rs, σ, hR, hrs, ?_, hs⟩
  unfold GLaw
  rw [b_cons, e0, bd_ok, kB_n, b_cons, e1, bd_ok, kB_n, b_cons, e2, bd_ok, kB_n, b_cons, e3]
  rfl
theorem law_rest {rs : List (List UInt8)} (hR : ∀ r ∈ rs, Row r) (hrs : rs.length <= 14) (ah : List UInt8) (x0 : PV) :
    exB (run GLaw 11) (fScope d_law.1) [sAt bLaw 4, sAt bLaw 5, sAt bLaw 6, sAt bLaw 7] (E3 ah rs x0) = .ok (.ret (.bool true)) \/
    ∃ σ os W, exB (run GLaw 11) (fScope d_law.1) [sAt bLaw 4, sAt bLaw 5, sAt bLaw 6, sAt bLaw 7] (E3 ah rs x0) = .ok (.next σ) /\
      (run GLaw 11).e (fScope d_law.1) σ (pArg (sAt bLaw 8)) = .ok (.list os) /\ packsP F_pack os = some W /\ W.length <= 100000 /\ List.lookup (Str.ofString "whole_row") σ = some (.bytes W) := by
  have hfl := flat_len rs hR
  have hge := flat_ge rs hR
  have e4 := law_4 (Frw := F_law_row) (Fdu := F_law_due) (Frr := F_law_row_right) (Fmr := F_law_made_right) (Fby := bytesP) (Fsu := sumP2) (Fua := uaP F_unpack) (Fle := lenP) (For := ordP) (w := octl rs.flatten) (W := rs.flatten) (as := octl ah) (ds := rs.map dueV) (rs := rs.map vl) (x0 := x0) (by
    show (if (rs.map vl).length <= 1000 then _ else _) = _
    rw [if_pos (by rw [List.length_map]; omega)]
    rw [show catP [] (rs.map vl) = some (octl rs.flatten) from catP_rows rs [] (by rw [List.nil_append]; omega)]; rfl) (bytes_ints (by omega))
  have hua : uaP F_unpack [.bytes rs.flatten] = uaR rs [] := by
    refine (if_pos (by omega)).trans ?_
    exact goU_rows rs hR [] [] _ (by omega) (by rw [List.nil_append]; omega)
  have hdl : (rs.map dueV).length <= 1000 := by rw [List.length_map]; omega
  have htn : ∀ v ∈ rs.map dueV, isT v = true \/ v = .none := by
    intro v hv
    obtain ⟨r, hr, rfl⟩ := List.mem_map.mp hv
    cases ht : isT (dueV r) with
    | true => exact .inl rfl
    | false => exact .inr (dueV_not (hR r hr) ht)
  have hnn : ∀ v ∈ rs.map dueV, cmpop .IsNot v .none = .ok (.bool (isT v)) := by
    intro v hv
    rcases htn v hv with h | h
    · induction v using PV.casesOn with
      | tuple l => rfl
      | _ => exact nomatch h
    · rw [h]; rfl
  have pre : ∀ r8, exB (run GLaw 11) (fScope d_law.1) [sAt bLaw 5, sAt bLaw 6, sAt bLaw 7] (("whole_row", .bytes rs.flatten) :: E3 ah rs x0) = r8 ->
      exB (run GLaw 11) (fScope d_law.1) [sAt bLaw 4, sAt bLaw 5, sAt bLaw 6, sAt bLaw 7] (E3 ah rs x0) = r8 := by
    intro r8 h
    unfold GLaw E3 at h ⊢
    rw [b_cons, e4, bd_ok, kB_n]
    exact h
  by_cases hb : ∃ r ∈ rs, isT (dueV r) = false
  · left
    obtain ⟨k, u1, u2⟩ := uaR_bad rs hR hb []
    refine pre _ ?_
    unfold GLaw
    rw [List.length_nil, Nat.zero_add] at u1
    unfold E3
    rw [b_cons, law_5er (hua.trans u1) hdl hnn, bd_ok, kB_n, b_cons]
    have hlt : ((rs.map dueV).filterMap gk).length < (rs.map dueV).length := keep_few _ (by
      obtain ⟨r, hr, he⟩ := hb
      exact ⟨_, List.mem_map_of_mem hr, he⟩)
    rw [law_6a (len_l (by omega)) (len_l (by omega)) (decide_eq_true (by omega)) (by
      show (if _ /\ _ /\ _ then (outOpt (idxNone (rs.map dueV))).bind fun k => Out.ok (PV.int k) else .stuck) = _
      rw [if_pos ⟨by kernel_rfl, hdl, due_tf _ htn⟩, u2]; rfl)]
    rfl
  · right
    have hg : ∀ r ∈ rs, isT (dueV r) = true := by
      intro r hr
      cases ht : isT (dueV r) with
      | true => rfl
      | false => exact (hb ⟨r, hr, ht⟩).elim
    have hg2 : ∀ v ∈ rs.map dueV, isT v = true := by
      intro v hv
      obtain ⟨r, hr, rfl⟩ := List.mem_map.mp hv
      exact hg r hr
    have h6 : ∀ v ∈ rs.map dueV, Is6 v := by
      intro v hv
      obtain ⟨r, hr, rfl⟩ := List.mem_map.mp hv
      exact dueV_six (hR r hr) (hg r hr)
    have hu := uaR_good rs hg []
    rw [List.nil_append] at hu
    have e5' := law_5ok (Frw := F_law_row) (Fdu := F_law_due) (Frr := F_law_row_right) (Fmr := F_law_made_right) (Fby := bytesP) (Fsu := sumP2) (Fua := uaP F_unpack) (Fle := lenP) (For := ordP) (as := octl ah) (rs := rs.map vl) (x0 := x0) (hua.trans hu) hdl hnn
    rw [keep_all _ hg2] at e5'
    refine ⟨("good", .list (rs.map dueV)) :: ("heard", .list [.list (rs.map fun r => ordOf (dueV r))]) :: ("whole_row", .bytes rs.flatten) :: E3 ah rs x0, (rs.map dueV).map ordOf, rs.flatten, pre _ ?_, ?_, ?_, by omega, ?_⟩
    rotate_left
    · exact law_8 hdl (by
        intro v hv
        obtain ⟨c, d, s, o, i, m, rfl⟩ := h6 v hv
        exact ⟨c, d, s, o, i, m, rfl, rfl⟩)
    · rw [List.map_map]; exact packs_rows rs hR hg
    · rfl
    · unfold GLaw E3
      rw [b_cons, e5', bd_ok, kB_n, b_cons, law_6b (len_l (by omega)) (len_l (by omega)) (decide_eq_false (by omega)), bd_ok, kB_n, b_cons,
        law_7 (os := rs.map fun r => ordOf (dueV r)) (tf := fun v => valOf (methP v (Str.ofString "told") [])) (by rw [List.length_map]; omega) (by
          intro v hv
          obtain ⟨r, hr, rfl⟩ := List.mem_map.mp hv
          obtain ⟨c, d, s, o, i, m, e⟩ := h6 (dueV r) (List.mem_map_of_mem hr)
          rw [e]; rfl) (by
          have e : (rs.map fun r => ordOf (dueV r)).map (fun v => valOf (methP v (Str.ofString "told") [])) = rs.map dueV := by
            rw [List.map_map]
            refine List.map_congr_left fun r hr => ?_
            obtain ⟨c, d, s, o, i, m, e⟩ := h6 (dueV r) (List.mem_map_of_mem hr)
            show valOf (methP (ordOf (dueV r)) (Str.ofString "told") []) = dueV r
            rw [e]; rfl
          rw [e]; exact ne6 h6)]
      rfl
noncomputable def esOf (o : Obj) : Array DictEntry := match o.data with
  | .dict es _ => es
  | _ => #[]
noncomputable def fnsL : List (Str × Addr) := [(Str.ofString "signed", 62), (Str.ofString "fits_signed", 69), (Str.ofString "little", 74), (Str.ofString "from_little", 81), (Str.ofString "Order", 106), (Str.ofString "is_alu", 117), (Str.ofString "is_jumping", 124), (Str.ofString "operation", 131), (Str.ofString "is_register", 138), (Str.ofString "width_of", 145), (Str.ofString "mode_of", 152), (Str.ofString "alu_size", 159), (Str.ofString "is_wide", 166), (Str.ofString "is_jump", 173), (Str.ofString "is_call", 180), (Str.ofString "is_exit", 187), (Str.ofString "is_branch", 194), (Str.ofString "atomic_name", 201), (Str.ofString "need", 208), (Str.ofString "check_fields", 215), (Str.ofString "check_end", 222), (Str.ofString "check_extension", 229), (Str.ofString "check_number", 236), (Str.ofString "check_alu", 243), (Str.ofString "check_jump", 250), (Str.ofString "check_jumping", 257), (Str.ofString "check_load", 264), (Str.ofString "check_stx", 271), (Str.ofString "check_order", 278), (Str.ofString "pack", 285), (Str.ofString "second_half", 292), (Str.ofString "unpack", 300), (Str.ofString "pack_all", 307), (Str.ofString "unpack_all", 314), (Str.ofString "_law_codes", 321), (Str.ofString "_law_number", 328), (Str.ofString "_law_row", 333), (Str.ofString "_law_deed_is", 340), (Str.ofString "_law_jump_is", 347), (Str.ofString "_law_is", 354), (Str.ofString "_law_due", 359), (Str.ofString "_law_heard", 366), (Str.ofString "_law_row_right", 373), (Str.ofString "_law_made_right", 378), (Str.ofString "law", 383), (Str.ofString "CodeError", 52)]
noncomputable def refV (v : Value) (b : Addr) : Bool := match v with
  | .ref x => x == b
  | _ => false
noncomputable def isRef (a : Option Value) (b : Addr) : Bool := match a with
  | some v => refV v b
  | none => false
theorem isRef_eq {a : Option Value} {b : Addr} (h : isRef a b = true) : a = some (.ref b) := by
  induction a using Option.casesOn with
  | none => exact nomatch (show false = true from h)
  | some v => induction v using Value.casesOn with
    | ref x => rw [eq_of_beq (show (x == b) = true from h)]
    | _ => exact nomatch (show false = true from h)
theorem fns_at (P : Params) : (fnsL.all fun p => isRef (nsFind (esOf (ob_3 P)) p.1) p.2) = true := by kernel_rfl
noncomputable def isTrueO (o : Out Bool) : Bool := match o with
  | .ok b => b
  | _ => false
theorem isTrueO_ne {o : Out Bool} (h : isTrueO o = true) : o ≠ .stuck := fun e => nomatch (show false = true from (congrArg isTrueO e).symm.trans h)
noncomputable def plainV (v : Value) (b : PV) : Bool := match v with
  | .int x _ => isTrueO (onInt b fun y => .ok (x == y))
  | .str x _ => isTrueO (onStr b fun y => .ok (x == y))
  | _ => false
noncomputable def isPlain (a : Option Value) (b : PV) : Bool := match a with
  | some v => plainV v b
  | none => false
theorem plainV_rep {W : Wd} {v : Value} {b : PV} (h : plainV v b = true) : ∀ hp X, Rep W hp X v b := by
  induction v using Value.casesOn with
  | int x t =>
    obtain ⟨y, rfl⟩ := onInt_is (isTrueO_ne (show isTrueO (onInt b fun y => .ok (x == y)) = true from h))
    obtain rfl := eq_of_beq (show (x == y) = true from h)
    exact fun _ _ => .int _ _
  | str x t =>
    obtain ⟨y, rfl⟩ := onStr_is (isTrueO_ne (show isTrueO (onStr b fun y => .ok (x == y)) = true from h))
    obtain rfl := eq_of_beq (show (x == y) = true from h)
    exact fun _ _ => .str _ _
  | _ => exact nomatch (show false = true from h)
noncomputable def gcl : List (Str × PV) := [
  ("LD", PV.int 0), ("LDX", .int 1), ("ST", .int 2), ("STX", .int 3), ("ALU", .int 4), ("JMP", .int 5), ("JMP32", .int 6), ("ALU64", .int 7),
  ("BY_REGISTER", .int 8), ("WIDE", .int 24), ("CALL", .int 133), ("EXIT", .int 149),
  ("MODE_IMM", .int 0), ("MODE_ABS", .int 32), ("MODE_IND", .int 64), ("MODE_MEM", .int 96), ("MODE_MEMSX", .int 128), ("MODE_ATOMIC", .int 192),
  ("FETCH", .int 1), ("XCHG", .int 225), ("CMPXCHG", .int 241), ("KNOWN", .int 14), ("SLOT", .int 8), ("MOST_REGISTER", .int 10),
  ("DEEDS", .str "add sub mul div or  and lsh rsh neg mod xor mov arshend "), ("JUMPS", .str "ja  eq  gt  ge  set ne  sgt sge callexitlt  le  slt sle ")]
theorem gcs_l (x : Str) : gcs x = List.lookup x gcl := rfl
theorem gcl_at (P : Params) : (gcl.all fun p => isPlain (nsFind (esOf (ob_3 P)) p.1) p.2) = true := by kernel_rfl
noncomputable def blt : List (Str × String) := [("len", "len"), ("sum", "sum"), ("bytes", "bytes"), ("bytearray", "bytearray"), ("range", "range"), ("zip", "zip"), ("Exception", "Exception")]
theorem blt_no (P : Params) : (blt.all fun p => (nsFind (esOf (ob_3 P)) p.1).isNone) = true := by kernel_rfl
structure Env0 (w : World) (hB : Heap) (mg mb : Str -> Option Value) : Prop where
  ok : (WW w hB mg mb).Ok
  blt : ∀ x : Str, x ≠ "__name__" -> mb x = bootBuiltins x
section
variable {w : World} {hB : Heap} {mg mb : Str -> Option Value} {n : Nat} {A : Around} {X : Addr -> Prop} {s s' : Shared}
theorem mg_is (ok : (WW w hB mg mb).Ok) (x : Str) : mg x = nsFind (esOf (ob_3 w.params)) x := by
  have h3 : hB.get? 3 = some (ob_3 w.params) := ok.K 3 _ (by show (K w.params).lookup 3 = _; rfl)
  obtain ⟨o, es, ep, ho, hd, _, hm⟩ := ok.g
  have : some (ob_3 w.params) = some o := h3.symm.trans ho
  cases this
  have e : esOf (ob_3 w.params) = es := by unfold esOf; rw [hd]
  rw [e]; exact (hm x).symm
theorem glob_fn (ok : (WW w hB mg mb).Ok) {x : Str} {a : Addr} (h : (x, a) ∈ fnsL) : GlobAt (WW w hB mg mb) x (.ref a) := by
  have := List.all_eq_true.mp (fns_at w.params) _ h
  left
  show mg x = _
  rw [mg_is ok]
  exact isRef_eq this
theorem glob_none (ok : (WW w hB mg mb).Ok) {x : Str} {q : String} (h : (x, q) ∈ blt) : mg x = none := by
  have := List.all_eq_true.mp (blt_no w.params) _ h
  rw [mg_is ok]
  exact Option.isNone_iff_eq_none.mp this
theorem glob_plain (ok : (WW w hB mg mb).Ok) (x : Str) (p : PV) (h : gcs x = some p) : ∃ u, GlobAt (WW w hB mg mb) x u /\ ∀ h X, Rep (WW w hB mg mb) h X u p := by
  rw [gcs_l] at h
  have := List.all_eq_true.mp (gcl_at w.params) _ (mem_of_lookup h)
  dsimp only at this
  rw [<- mg_is ok] at this
  cases e : mg x with
  | none => rw [e] at this; exact nomatch (show false = true from this)
  | some v => rw [e] at this; exact ⟨v, .inl e, plainV_rep this⟩
noncomputable def J0e (σ : Vars) (e : Expr) : Out PV := onSome (vAtt e) fun p => onSome (vName p.1) fun x => if x == "__debug__" then .stuck else onSome (σ.lookup x) fun v => attrP v p.2.1
noncomputable def vRet (s : Stmt) : Option Expr := match s with
  | .Return e _ => e
  | _ => none
theorem vRet_is (s : Stmt) : orT (vRet s) fun e => ∃ p, s = .Return (some e) p := by
  induction s using PySem.Stmt.casesOn with
  | Return e p => induction e using Option.casesOn with
    | none => exact trivial
    | some e => exact ⟨p, rfl⟩
  | _ => exact trivial
noncomputable def J0 : I := ⟨fun _ σ e => J0e σ e, fun _ _ _ => .stuck, fun sc σ b => only b fun s => onSome (vRet s) fun e => onSome (vTup e) fun _ => (evE (GL []) ⟨fun _ σ e => J0e σ e, fun _ _ _ => .stuck, fun _ _ _ => .stuck⟩ sc σ e).bind fun v => .ok (.ret v)⟩
theorem attrP_ne {v : PV} {name : Str} (h : attrP v name ≠ .stuck) : ∃ q, attrP v name = .ok q := by
  cases hq : attrP v name with
  | stuck => exact (h hq).elim
  | err p => exact (attrP_err hq).elim
  | ok q => exact ⟨q, rfl⟩
theorem J0_E (ok : (WW w hB mg mb).Ok) (b : Scope -> Vars -> List Stmt -> Out Res) : SndE (WW w hB mg mb) n ⟨fun _ σ e => J0e σ e, fun _ _ _ => .stuck, b⟩ := by
  intro sc σ e env A X s S T O hne
  have hne2 : J0e σ e ≠ .stuck := hne
  show wpAny _ A (eval e env) (Post (WW w hB mg mb) s (RV (WW w hB mg mb) X) (J0e σ e)) (Epost (WW w hB mg mb) X s (J0e σ e)) s
  clear hne
  obtain ⟨p, hp⟩ := onSome_is (o := vAtt e) hne2
  have e0 : J0e σ e = onSome (vName p.1) fun x => if x == "__debug__" then .stuck else onSome (σ.lookup x) fun v => attrP v p.2.1 := by unfold J0e; rw [hp]; rfl
  rw [e0] at hne2 ⊢
  clear e0
  obtain ⟨o, name, ap⟩ := p
  obtain rfl := vAtt_eq hp
  obtain ⟨x, hx⟩ := onSome_is hne2
  obtain ⟨xp, rfl⟩ := vName_eq hx
  by_cases hd : x == "__debug__"
  · exact (hne2 (if_pos hd)).elim
  have e1 : (onSome (vName (.Name x xp)) fun x => if x == "__debug__" then .stuck else onSome (σ.lookup x) fun v => attrP v name) = onSome (σ.lookup x) fun v => attrP v name := if_neg hd
  rw [e1] at hne2 ⊢
  clear e1
  obtain ⟨v, hv⟩ := onSome_is hne2
  rw [hv] at hne2 ⊢
  obtain ⟨q, hq⟩ := attrP_ne hne2
  rw [show (onSome (some v) fun v => attrP v name) = .ok q from hq]
  exact attr_any rfl (wpAny_Name (loadName_var O hv fun u ru => attr_ok ok _ _ _ _ _ _ _ _ _ S ru hq) (by simpa using hd))
theorem J0_B (ok : (WW w hB mg mb).Ok) : SndB (WW w hB mg mb) n J0 := by
  intro sc σ b env A X s L old H hne
  show wpAny _ A (execs b env) (BPost (WW w hB mg mb) X sc env L old s (J0.b sc σ b)) (BEpost (WW w hB mg mb) X L old s (J0.b sc σ b)) s
  have hne2 : J0.b sc σ b ≠ .stuck := hne
  clear hne
  obtain ⟨s0, rfl⟩ := only_is hne2
  obtain ⟨e, he⟩ := onSome_is (o := vRet s0) hne2
  obtain ⟨p, rfl⟩ := orT_s (vRet_is s0) he
  obtain ⟨es, hs⟩ := onSome_is (o := vTup e) hne2
  have e0 : J0.b sc σ [.Return (some e) p] = (evE (GL []) ⟨fun _ σ e => J0e σ e, fun _ _ _ => .stuck, fun _ _ _ => .stuck⟩ sc σ e).bind fun v => .ok (.ret v) := by
    show (onSome (vTup e) fun _ => (evE (GL []) ⟨fun _ σ e => J0e σ e, fun _ _ _ => .stuck, fun _ _ _ => .stuck⟩ sc σ e).bind fun v => Out.ok (Res.ret v)) = _
    rw [hs]; rfl
  rw [e0] at hne2 ⊢
  clear e0
  obtain ⟨k, q, rfl⟩ := vTup_eq hs
  refine wpAny_execs_cons (wpAny_Return_some (thenS H hne2 (fun h => snd_Tuple (J0_E ok _) H.here h) fun va a s1 ra t1 hk1 c1 => ?_))
  rw [c1]
  exact .inr ⟨a, va, rfl, rfl, ra, StepS.of t1⟩
theorem told_read (c d s o i m : Int) : (J0.b fd_103.scope [("self", .ord c d s o i m)] (fBody d_Order_told.1)).bind toRet = .ok (.tuple [.int c, .int d, .int s, .int o, .int i, .int m]) := by kernel_rfl
theorem told_by {J : I} (JB : SndB (WW w hB mg mb) n J) (hr : ∀ c d s o i m : Int, (J.b fd_103.scope [("self", .ord c d s o i m)] (fBody d_Order_told.1)).bind toRet = .ok (.tuple [.int c, .int d, .int s, .int o, .int i, .int m])) (ok : (WW w hB mg mb).Ok) : FnOK (WW w hB mg mb) (n + 1) (.ref 103) toldP where
  kp := .inr kp_103
  run := fun A X s vs args S r hne => by
    obtain ⟨v0, rfl⟩ := only_is hne
    obtain ⟨c, d, t, o, i, m, rfl⟩ := onOrd_is (v := v0) hne
    have e : toldP [.ord c d t o i m] = (J.b fd_103.scope [("self", .ord c d t o i m)] (fBody d_Order_told.1)).bind toRet := (hr c d t o i m).symm
    rw [e]
    obtain ⟨FS, hf, hst⟩ := scopeOK_fn sc_103
    have XK := ok.inK S.base
    have D := D_103 (w := w) (hB := hB) (mg := mg) (mb := mb)
    exact fn_call (SB := JB) ok S (XK _ _ D.lk) rfl D.gl D.cl D.bi D.body (codeIs_rec XK D.code) FS hf (BindsTo.of_eq (bi_103 vs r.length)) (Binds.zip (xs := [Str.ofString "self"]) r) (fun x hx => hst _ (List.of_mem_zip hx).1) D.lam (fun q => hne (e.trans q))
theorem told_ok (ok : (WW w hB mg mb).Ok) : FnOK (WW w hB mg mb) (n + 1) (.ref 103) toldP := told_by (J0_B ok) told_read ok
end
inductive AllOK (W : Wd) (n : Nat) : Fns -> Prop
  | nil : AllOK W n []
  | cons {x : Str} {fv : Value} {F : List PV -> Out PV} {l : Fns} (g : GlobAt W x fv) (f : FnOK W n fv F) (r : AllOK W n l) : AllOK W n ((x, F) :: l)
theorem AllOK.at {W : Wd} {n : Nat} {l : Fns} (h : AllOK W n l) {x : Str} {F : List PV -> Out PV} (e : List.lookup x l = some F) : ∃ fv, GlobAt W x fv /\ FnOK W n fv F := by
  induction h with
  | nil => cases e
  | @cons y fv F' l g f r ih =>
    rw [lk_cons] at e
    cases hx : x == y with
    | true =>
      rw [hx] at e
      cases e
      rw [eq_of_beq hx]
      exact ⟨fv, g, f⟩
    | false =>
      rw [hx] at e
      exact ih e
theorem k_zrange : bootBuiltins "range" = some (.type "range") := by kernel_rfl
theorem k_zzip : bootBuiltins "zip" = some (.type "zip") := by kernel_rfl
theorem k_zexc : bootBuiltins "Exception" = some (.type "Exception") := by kernel_rfl
theorem k_keep52 (P : Params) : keepIn (K P) (.ref 52) = true := by kernel_rfl
section
variable {w : World} {hB : Heap} {mg mb : Str -> Option Value} {n : Nat}
theorem glob_blt (E : Env0 w hB mg mb) {x : Str} {q : String} {v : Value} (h : (x, q) ∈ blt) (hn : x ≠ "__name__") (hv : bootBuiltins x = some v) : GlobAt (WW w hB mg mb) x v :=
  .inr ⟨glob_none E.ok h, (E.blt x hn).trans hv⟩
theorem hyD (E : Env0 w hB mg mb) {G : Gl} (hgc : ∀ x p, G.gc x = some p -> ∃ u, GlobAt (WW w hB mg mb) x u /\ ∀ h X, Rep (WW w hB mg mb) h X u p) (hD : ∀ f F, G.D f = some F -> ∃ fv, GlobAt (WW w hB mg mb) f fv /\ FnOK (WW w hB mg mb) (n + 3) fv F) : Hy (WW w hB mg mb) G (n + 3) where
  ok := E.ok
  gc := hgc
  D := hD
  attr := attr_ok E.ok
  told := ⟨.ref 103, told_ok E.ok, told_meth E.ok⟩
  range := glob_blt E (q := "range") (mem_of_lookup (by kernel_rfl)) (by decide) k_zrange
  zip := glob_blt E (q := "zip") (mem_of_lookup (by kernel_rfl)) (by decide) k_zzip
  sub := k_x_base _
  typ := k_x_typ _
  exc := ⟨.ref 52, glob_fn E.ok (mem_of_lookup (by kernel_rfl)), .inr (k_keep52 _), fun A X s vs ps pa E' S r he => exc_ok (n := n + 1) E.ok (glob_blt E (q := "Exception") (mem_of_lookup (by kernel_rfl)) (by decide) k_zexc) S.to0 S.priv r he⟩
  heard := ⟨.ref 366, glob_fn E.ok (mem_of_lookup (by kernel_rfl)), fun m => heard_ok E.ok (glob_fn E.ok (mem_of_lookup (by kernel_rfl))) m⟩
theorem hyG (E : Env0 w hB mg mb) {l : Fns} (h : AllOK (WW w hB mg mb) (n + 3) l) : Hy (WW w hB mg mb) (GL l) (n + 3) := hyD E (glob_plain E.ok) fun f F e => h.at e
theorem hF_need : ∀ args, F_need args ≠ .stuck -> fnP (GL []) 12 (fScope d_need.1) [Str.ofString "is_right", Str.ofString "what"] (fBody d_need.1) args = F_need args := by
  intro args hne
  obtain ⟨v, r, rfl⟩ := onCons_is hne
  obtain ⟨b, rfl⟩ := onBool_is (v := v) hne
  obtain ⟨w, rfl⟩ := only_is (l := r) hne
  obtain ⟨x, rfl⟩ := onStr_is (v := w) hne
  cases b
  · exact rd_need_no x
  · exact rd_needT x
theorem hF_fits_signed : ∀ args, F_fits_signed args ≠ .stuck -> fnP (GL []) 12 (fScope d_fits_signed.1) [Str.ofString "worth", Str.ofString "size"] (fBody d_fits_signed.1) args = F_fits_signed args := by
  intro args hne
  obtain ⟨x, r, rfl⟩ := popInt_is hne
  obtain ⟨k, r, rfl⟩ := popInt_is (l := r) hne
  obtain rfl := onNil_is (l := r) hne
  by_cases h1 : k = 16
  · subst h1; exact rd_fits16 _ x
  · by_cases h2 : k = 32
    · subst h2; exact rd_fits32 _ x
    · exact (hne ((if_neg h1).trans (if_neg h2))).elim
theorem hF_signed : ∀ args, F_signed args ≠ .stuck -> fnP (GL []) 12 (fScope d_signed.1) [Str.ofString "worth", Str.ofString "size"] (fBody d_signed.1) args = F_signed args := by
  intro args hne
  obtain ⟨x, r, rfl⟩ := popInt_is hne
  obtain ⟨k, r, rfl⟩ := popInt_is (l := r) hne
  obtain rfl := onNil_is (l := r) hne
  by_cases h1 : k = 16 /\ 0 <= x /\ x < 65536
  · refine Eq.trans ?_ (if_pos h1).symm
    obtain ⟨h1, h2, h3⟩ := h1
    subst h1; exact rd_signed16 _ x h2 h3
  · by_cases h2 : k = 32 /\ 0 <= x /\ x < 4294967296
    · refine Eq.trans ?_ ((if_neg h1).trans (if_pos h2)).symm
      obtain ⟨h3, h4, h5⟩ := h2
      subst h3; exact rd_signed32 _ x h4 h5
    · exact (hne ((if_neg h1).trans (if_neg h2))).elim
theorem hF_from_little : ∀ args, F_from_little args ≠ .stuck -> fnP (GL [("len", lenP)]) 12 (fScope d_from_little.1) [Str.ofString "octets"] (fBody d_from_little.1) args = F_from_little args := by
  intro args hne
  obtain ⟨v, rfl⟩ := only_is hne
  obtain ⟨l, rfl⟩ := onBytes_is (v := v) hne
  obtain ⟨a, r, rfl⟩ := onCons_is (l := l) hne
  obtain ⟨b, r, rfl⟩ := onCons_is (l := r) hne
  induction r using List.casesOn with
  | nil => exact rd_from2 a b
  | cons c r =>
    obtain ⟨d, rfl⟩ := only_is (l := r) hne
    exact rd_from4 a b c d
theorem hF_law_deed_is : ∀ args, F_law_deed_is args ≠ .stuck -> fnP (GL []) 12 (fScope d_law_deed_is.1) [Str.ofString "kind", Str.ofString "back", Str.ofString "away", Str.ofString "whole"] (fBody d_law_deed_is.1) args = F_law_deed_is args := by
  intro args hne
  obtain ⟨c, r, rfl⟩ := popInt_is hne
  obtain ⟨d, r, rfl⟩ := popInt_is (l := r) hne
  obtain ⟨s, r, rfl⟩ := popInt_is (l := r) hne
  obtain ⟨o, r, rfl⟩ := popInt_is (l := r) hne
  obtain rfl := onNil_is (l := r) hne
  exact rd_law_deed_is _ _ _ _
theorem hF_law_jump_is : ∀ args, F_law_jump_is args ≠ .stuck -> fnP (GL []) 12 (fScope d_law_jump_is.1) [Str.ofString "kind", Str.ofString "goal", Str.ofString "back", Str.ofString "away", Str.ofString "whole"] (fBody d_law_jump_is.1) args = F_law_jump_is args := by
  intro args hne
  obtain ⟨c, d, s, o, i, rfl⟩ := ints5_is hne
  exact rd_law_jump_is _ _ _ _ _
theorem hF_law_is : ∀ args, F_law_is args ≠ .stuck -> fnP (GL [("_law_deed_is", F_law_deed_is), ("_law_jump_is", F_law_jump_is)]) 12 (fScope d_law_is.1) [Str.ofString "kind", Str.ofString "goal", Str.ofString "back", Str.ofString "away", Str.ofString "whole"] (fBody d_law_is.1) args = F_law_is args := by
  intro args hne
  obtain ⟨c, d, s, o, i, rfl⟩ := ints5_is hne
  exact rd_law_is _ _ _ _ _
theorem ok_Order (E : Env0 w hB mg mb) : FnOK (WW w hB mg mb) 3 (.ref 106) ordP := order_ok (n := 1) E.ok
theorem bind62 (P : Params) (a b : Value) (s : Shared) (X : (K P).In s.heap) : BindsTo s fd_62 ⟨[a, b], []⟩ ([Str.ofString "worth", Str.ofString "size"].zip [a, b]) :=
  binds_K (T := 55) (o := ob_55) (items := #[.int 64 243]) (n := 0) X rfl (by kernel_rfl) rfl rfl (by kernel_rfl)
theorem bind300_2 (P : Params) (a b : Value) (s : Shared) (X : (K P).In s.heap) : BindsTo s fd_300 ⟨[a, b], []⟩ ([Str.ofString "octets", Str.ofString "at"].zip [a, b]) :=
  binds_K (T := 293) (o := ob_293) (items := #[.int 0 580]) (n := 0) X rfl (by kernel_rfl) rfl rfl (by kernel_rfl)
theorem bind300_1 (P : Params) (a : Value) (s : Shared) (X : (K P).In s.heap) : BindsTo s fd_300 ⟨[a], []⟩ ([Str.ofString "octets", Str.ofString "at"].zip [a, .int 0 580]) :=
  binds_K (T := 293) (o := ob_293) (items := #[.int 0 580]) (n := 0) X rfl (by kernel_rfl) rfl rfl (by kernel_rfl)
theorem ok_signed (E : Env0 w hB mg mb) : FnOK (WW w hB mg mb) 40 (.ref 62) F_signed where
  kp := .inr kp_62
  run := fun A X s vs args S r hne => by
    have e := hF_signed args hne
    have h2 : ∃ a b, args = [a, b] := by
      clear r e
      obtain ⟨x, r', rfl⟩ := popInt_is hne
      obtain ⟨k, r', rfl⟩ := popInt_is (l := r') hne
      obtain rfl := onNil_is (l := r') hne
      exact ⟨_, _, rfl⟩
    obtain ⟨a, b, rfl⟩ := h2
    rw [<- e] at hne ⊢
    obtain ⟨v, u, rfl, r1, r2⟩ := r.is2
    exact def_run (n := 3) E.ok (hyG E (n := 0) .nil) 12 D_62 sc_62 S (bind62 _ _ _ s (E.ok.inK S.base)) (.cons r1 (.cons r2 .nil)) hne
theorem gf (E : Env0 w hB mg mb) {x : Str} {a : Addr} (h : List.lookup x fnsL = some a) : GlobAt (WW w hB mg mb) x (.ref a) := glob_fn E.ok (mem_of_lookup h)
variable (E : Env0 w hB mg mb)
include E
theorem g_Order : GlobAt (WW w hB mg mb) "Order" (.ref 106) := gf E (by kernel_rfl)
theorem g_alu_size : GlobAt (WW w hB mg mb) "alu_size" (.ref 159) := gf E (by kernel_rfl)
theorem g_atomic_name : GlobAt (WW w hB mg mb) "atomic_name" (.ref 201) := gf E (by kernel_rfl)
theorem g_bytes : GlobAt (WW w hB mg mb) "bytes" (.type "bytes") := glob_blt E (q := "bytes") (mem_of_lookup (by kernel_rfl)) (by decide) (by kernel_rfl)
theorem g_check_alu : GlobAt (WW w hB mg mb) "check_alu" (.ref 243) := gf E (by kernel_rfl)
theorem g_check_end : GlobAt (WW w hB mg mb) "check_end" (.ref 222) := gf E (by kernel_rfl)
theorem g_check_extension : GlobAt (WW w hB mg mb) "check_extension" (.ref 229) := gf E (by kernel_rfl)
theorem g_check_fields : GlobAt (WW w hB mg mb) "check_fields" (.ref 215) := gf E (by kernel_rfl)
theorem g_check_jump : GlobAt (WW w hB mg mb) "check_jump" (.ref 250) := gf E (by kernel_rfl)
theorem g_check_jumping : GlobAt (WW w hB mg mb) "check_jumping" (.ref 257) := gf E (by kernel_rfl)
theorem g_check_load : GlobAt (WW w hB mg mb) "check_load" (.ref 264) := gf E (by kernel_rfl)
theorem g_check_number : GlobAt (WW w hB mg mb) "check_number" (.ref 236) := gf E (by kernel_rfl)
theorem g_check_order : GlobAt (WW w hB mg mb) "check_order" (.ref 278) := gf E (by kernel_rfl)
theorem g_check_stx : GlobAt (WW w hB mg mb) "check_stx" (.ref 271) := gf E (by kernel_rfl)
theorem g_fits_signed : GlobAt (WW w hB mg mb) "fits_signed" (.ref 69) := gf E (by kernel_rfl)
theorem g_from_little : GlobAt (WW w hB mg mb) "from_little" (.ref 81) := gf E (by kernel_rfl)
theorem g_is_alu : GlobAt (WW w hB mg mb) "is_alu" (.ref 117) := gf E (by kernel_rfl)
theorem g_is_branch : GlobAt (WW w hB mg mb) "is_branch" (.ref 194) := gf E (by kernel_rfl)
theorem g_is_call : GlobAt (WW w hB mg mb) "is_call" (.ref 180) := gf E (by kernel_rfl)
theorem g_is_exit : GlobAt (WW w hB mg mb) "is_exit" (.ref 187) := gf E (by kernel_rfl)
theorem g_is_jump : GlobAt (WW w hB mg mb) "is_jump" (.ref 173) := gf E (by kernel_rfl)
theorem g_is_jumping : GlobAt (WW w hB mg mb) "is_jumping" (.ref 124) := gf E (by kernel_rfl)
theorem g_is_register : GlobAt (WW w hB mg mb) "is_register" (.ref 138) := gf E (by kernel_rfl)
theorem g_is_wide : GlobAt (WW w hB mg mb) "is_wide" (.ref 166) := gf E (by kernel_rfl)
theorem g_law_codes : GlobAt (WW w hB mg mb) "_law_codes" (.ref 321) := gf E (by kernel_rfl)
theorem g_law_deed_is : GlobAt (WW w hB mg mb) "_law_deed_is" (.ref 340) := gf E (by kernel_rfl)
theorem g_law_is : GlobAt (WW w hB mg mb) "_law_is" (.ref 354) := gf E (by kernel_rfl)
theorem g_law_jump_is : GlobAt (WW w hB mg mb) "_law_jump_is" (.ref 347) := gf E (by kernel_rfl)
theorem g_law_number : GlobAt (WW w hB mg mb) "_law_number" (.ref 328) := gf E (by kernel_rfl)
theorem g_len : GlobAt (WW w hB mg mb) "len" (.builtin "len") := glob_blt E (q := "len") (mem_of_lookup (by kernel_rfl)) (by decide) (by kernel_rfl)
theorem g_little : GlobAt (WW w hB mg mb) "little" (.ref 74) := gf E (by kernel_rfl)
theorem g_mode_of : GlobAt (WW w hB mg mb) "mode_of" (.ref 152) := gf E (by kernel_rfl)
theorem g_need : GlobAt (WW w hB mg mb) "need" (.ref 208) := gf E (by kernel_rfl)
theorem g_operation : GlobAt (WW w hB mg mb) "operation" (.ref 131) := gf E (by kernel_rfl)
theorem g_pack : GlobAt (WW w hB mg mb) "pack" (.ref 285) := gf E (by kernel_rfl)
theorem g_second_half : GlobAt (WW w hB mg mb) "second_half" (.ref 292) := gf E (by kernel_rfl)
theorem g_signed : GlobAt (WW w hB mg mb) "signed" (.ref 62) := gf E (by kernel_rfl)
theorem g_sum : GlobAt (WW w hB mg mb) "sum" (.builtin "sum") := glob_blt E (q := "sum") (mem_of_lookup (by kernel_rfl)) (by decide) (by kernel_rfl)
theorem g_unpack : GlobAt (WW w hB mg mb) "unpack" (.ref 300) := gf E (by kernel_rfl)
theorem g_width_of : GlobAt (WW w hB mg mb) "width_of" (.ref 145) := gf E (by kernel_rfl)
theorem ok_fits_signed : FnOK (WW w hB mg mb) 40 (.ref 69) F_fits_signed := def_ok (n := 3) E.ok (hyG E (n := 0) .nil) 12 D_69 sc_69 kp_69 bi_69 hF_fits_signed
theorem ok_little : FnOK (WW w hB mg mb) 40 (.ref 74) F_little := def_ok (n := 3) E.ok (hyG E (n := 0) (.cons (g_bytes E) bytes_ok .nil)) 12 D_74 sc_74 kp_74 bi_74 (fun _ _ => rfl)
theorem ok_from_little : FnOK (WW w hB mg mb) 40 (.ref 81) F_from_little := def_ok (n := 3) E.ok (hyG E (n := 0) (.cons (g_len E) len_ok .nil)) 12 D_81 sc_81 kp_81 bi_81 hF_from_little
theorem ok_is_alu : FnOK (WW w hB mg mb) 40 (.ref 117) (FU fun c => .bool (isAlu c)) := def_ok (n := 3) E.ok (hyG E (n := 0) .nil) 12 D_117 sc_117 kp_117 bi_117 (fu_of b_is_alu)
theorem ok_is_jumping : FnOK (WW w hB mg mb) 40 (.ref 124) (FU fun c => .bool (isJmp c)) := def_ok (n := 3) E.ok (hyG E (n := 0) .nil) 12 D_124 sc_124 kp_124 bi_124 (fu_of b_is_jumping)
theorem ok_is_register : FnOK (WW w hB mg mb) 40 (.ref 138) (FU fun c => .bool (isReg c)) := def_ok (n := 3) E.ok (hyG E (n := 0) .nil) 12 D_138 sc_138 kp_138 bi_138 (fu_of b_is_register)
theorem ok_width_of : FnOK (WW w hB mg mb) 40 (.ref 145) (FU fun c => .int (widthP c)) := def_ok (n := 3) E.ok (hyG E (n := 0) .nil) 12 D_145 sc_145 kp_145 bi_145 (fu_of b_width_of)
theorem ok_mode_of : FnOK (WW w hB mg mb) 40 (.ref 152) (FU fun c => .str (modeP c)) := def_ok (n := 3) E.ok (hyG E (n := 0) .nil) 12 D_152 sc_152 kp_152 bi_152 (fu_of b_mode_of)
theorem ok_alu_size : FnOK (WW w hB mg mb) 40 (.ref 159) (FU fun c => .int (sizeP c)) := def_ok (n := 3) E.ok (hyG E (n := 0) .nil) 12 D_159 sc_159 kp_159 bi_159 (fu_of b_alu_size)
theorem ok_is_wide : FnOK (WW w hB mg mb) 40 (.ref 166) (FU fun c => .bool (c == 24)) := def_ok (n := 3) E.ok (hyG E (n := 0) .nil) 12 D_166 sc_166 kp_166 bi_166 (fu_of b_is_wide)
theorem ok_is_call : FnOK (WW w hB mg mb) 40 (.ref 180) (FU fun c => .bool (c == 133)) := def_ok (n := 3) E.ok (hyG E (n := 0) .nil) 12 D_180 sc_180 kp_180 bi_180 (fu_of b_is_call)
theorem ok_is_exit : FnOK (WW w hB mg mb) 40 (.ref 187) (FU fun c => .bool (c == 149)) := def_ok (n := 3) E.ok (hyG E (n := 0) .nil) 12 D_187 sc_187 kp_187 bi_187 (fu_of b_is_exit)
theorem ok_atomic_name : FnOK (WW w hB mg mb) 40 (.ref 201) F_atomic_name := def_ok (n := 3) E.ok (hyG E (n := 0) .nil) 12 D_201 sc_201 kp_201 bi_201 hF_atomic_name
theorem ok_need : FnOK (WW w hB mg mb) 40 (.ref 208) F_need := def_ok (n := 3) E.ok (hyG E (n := 0) .nil) 12 D_208 sc_208 kp_208 bi_208 hF_need
theorem ok_law_codes : FnOK (WW w hB mg mb) 40 (.ref 321) F_law_codes := def_ok (n := 3) E.ok (hyG E (n := 0) .nil) 12 D_321 sc_321 kp_321 bi_321 (fun _ _ => rfl)
theorem ok_law_number : FnOK (WW w hB mg mb) 40 (.ref 328) F_law_number := def_ok (n := 3) E.ok (hyG E (n := 0) .nil) 12 D_328 sc_328 kp_328 bi_328 (fun _ _ => rfl)
theorem ok_law_deed_is : FnOK (WW w hB mg mb) 40 (.ref 340) F_law_deed_is := def_ok (n := 3) E.ok (hyG E (n := 0) .nil) 12 D_340 sc_340 kp_340 bi_340 hF_law_deed_is
theorem ok_law_jump_is : FnOK (WW w hB mg mb) 40 (.ref 347) F_law_jump_is := def_ok (n := 3) E.ok (hyG E (n := 0) .nil) 12 D_347 sc_347 kp_347 bi_347 hF_law_jump_is
theorem ok_operation : FnOK (WW w hB mg mb) 77 (.ref 131) F_operation := def_ok (n := 40) E.ok (hyG E (n := 37) (.cons (g_is_alu E) ((ok_is_alu E).up (by decide)) (.cons (g_is_jumping E) ((ok_is_jumping E).up (by decide)) .nil))) 12 D_131 sc_131 kp_131 bi_131 hF_operation
theorem ok_is_jump : FnOK (WW w hB mg mb) 77 (.ref 173) (FU fun c => .bool (isJump c)) := def_ok (n := 40) E.ok (hyG E (n := 37) (.cons (g_is_jumping E) ((ok_is_jumping E).up (by decide)) .nil)) 12 D_173 sc_173 kp_173 bi_173 (fu_of b_is_jump)
theorem ok_is_branch : FnOK (WW w hB mg mb) 114 (.ref 194) (FU fun c => .bool (isBranch c)) := def_ok (n := 77) E.ok (hyG E (n := 74) (.cons (g_is_jumping E) ((ok_is_jumping E).up (by decide)) (.cons (g_is_jump E) ((ok_is_jump E).up (by decide)) (.cons (g_is_call E) ((ok_is_call E).up (by decide)) (.cons (g_is_exit E) ((ok_is_exit E).up (by decide)) .nil))))) 12 D_194 sc_194 kp_194 bi_194 (fu_of b_is_branch)
theorem ok_check_fields : FnOK (WW w hB mg mb) 77 (.ref 215) F_check_fields := def_ok (n := 40) E.ok (hyG E (n := 37) (.cons (g_need E) ((ok_need E).up (by decide)) (.cons (g_fits_signed E) ((ok_fits_signed E).up (by decide)) (.cons (g_is_wide E) ((ok_is_wide E).up (by decide)) .nil)))) 12 D_215 sc_215 kp_215 bi_215 hF_check_fields
theorem ok_check_end : FnOK (WW w hB mg mb) 77 (.ref 222) F_check_end := def_ok (n := 40) E.ok (hyG E (n := 37) (.cons (g_need E) ((ok_need E).up (by decide)) (.cons (g_is_register E) ((ok_is_register E).up (by decide)) .nil))) 12 D_222 sc_222 kp_222 bi_222 hF_check_end
theorem ok_check_extension : FnOK (WW w hB mg mb) 77 (.ref 229) F_check_extension := def_ok (n := 40) E.ok (hyG E (n := 37) (.cons (g_need E) ((ok_need E).up (by decide)) (.cons (g_alu_size E) ((ok_alu_size E).up (by decide)) .nil))) 12 D_229 sc_229 kp_229 bi_229 hF_check_extension
theorem ok_check_number : FnOK (WW w hB mg mb) 77 (.ref 236) F_check_number := def_ok (n := 40) E.ok (hyG E (n := 37) (.cons (g_need E) ((ok_need E).up (by decide)) (.cons (g_alu_size E) ((ok_alu_size E).up (by decide)) .nil))) 12 D_236 sc_236 kp_236 bi_236 hF_check_number
theorem ok_check_alu : FnOK (WW w hB mg mb) 114 (.ref 243) F_check_alu := def_ok (n := 77) E.ok (hyG E (n := 74) (.cons (g_need E) ((ok_need E).up (by decide)) (.cons (g_operation E) ((ok_operation E).up (by decide)) (.cons (g_is_register E) ((ok_is_register E).up (by decide)) (.cons (g_check_end E) ((ok_check_end E).up (by decide)) (.cons (g_check_number E) ((ok_check_number E).up (by decide)) (.cons (g_check_extension E) ((ok_check_extension E).up (by decide)) .nil))))))) 12 D_243 sc_243 kp_243 bi_243 hF_check_alu
theorem ok_check_jump : FnOK (WW w hB mg mb) 77 (.ref 250) F_check_jump := def_ok (n := 40) E.ok (hyG E (n := 37) (.cons (g_need E) ((ok_need E).up (by decide)) (.cons (g_is_register E) ((ok_is_register E).up (by decide)) .nil))) 12 D_250 sc_250 kp_250 bi_250 hF_check_jump
theorem ok_check_jumping : FnOK (WW w hB mg mb) 151 (.ref 257) F_check_jumping := def_ok (n := 114) E.ok (hyG E (n := 111) (.cons (g_need E) ((ok_need E).up (by decide)) (.cons (g_operation E) ((ok_operation E).up (by decide)) (.cons (g_is_register E) ((ok_is_register E).up (by decide)) (.cons (g_is_jump E) ((ok_is_jump E).up (by decide)) (.cons (g_check_jump E) ((ok_check_jump E).up (by decide)) (.cons (g_is_call E) ((ok_is_call E).up (by decide)) (.cons (g_is_exit E) ((ok_is_exit E).up (by decide)) (.cons (g_is_branch E) ((ok_is_branch E).up (by decide)) .nil))))))))) 12 D_257 sc_257 kp_257 bi_257 hF_check_jumping
theorem ok_check_load : FnOK (WW w hB mg mb) 77 (.ref 264) F_check_load := def_ok (n := 40) E.ok (hyG E (n := 37) (.cons (g_need E) ((ok_need E).up (by decide)) (.cons (g_mode_of E) ((ok_mode_of E).up (by decide)) (.cons (g_width_of E) ((ok_width_of E).up (by decide)) .nil)))) 12 D_264 sc_264 kp_264 bi_264 hF_check_load
theorem ok_check_stx : FnOK (WW w hB mg mb) 77 (.ref 271) F_check_stx := def_ok (n := 40) E.ok (hyG E (n := 37) (.cons (g_need E) ((ok_need E).up (by decide)) (.cons (g_mode_of E) ((ok_mode_of E).up (by decide)) (.cons (g_width_of E) ((ok_width_of E).up (by decide)) (.cons (g_atomic_name E) ((ok_atomic_name E).up (by decide)) .nil))))) 12 D_271 sc_271 kp_271 bi_271 hF_check_stx
theorem ok_check_order : FnOK (WW w hB mg mb) 188 (.ref 278) F_check_order := def_ok (n := 151) E.ok (hyG E (n := 148) (.cons (g_need E) ((ok_need E).up (by decide)) (.cons (g_check_fields E) ((ok_check_fields E).up (by decide)) (.cons (g_is_alu E) ((ok_is_alu E).up (by decide)) (.cons (g_is_jumping E) ((ok_is_jumping E).up (by decide)) (.cons (g_check_alu E) ((ok_check_alu E).up (by decide)) (.cons (g_check_jumping E) ((ok_check_jumping E).up (by decide)) (.cons (g_is_wide E) ((ok_is_wide E).up (by decide)) (.cons (g_check_load E) ((ok_check_load E).up (by decide)) (.cons (g_mode_of E) ((ok_mode_of E).up (by decide)) (.cons (g_check_stx E) ((ok_check_stx E).up (by decide)) .nil))))))))))) 12 D_278 sc_278 kp_278 bi_278 hF_check_order
theorem ok_law_is : FnOK (WW w hB mg mb) 77 (.ref 354) F_law_is := def_ok (n := 40) E.ok (hyG E (n := 37) (.cons (g_law_deed_is E) ((ok_law_deed_is E).up (by decide)) (.cons (g_law_jump_is E) ((ok_law_jump_is E).up (by decide)) .nil))) 12 D_354 sc_354 kp_354 bi_354 hF_law_is
theorem ok_second_half : FnOK (WW w hB mg mb) 77 (.ref 292) F_second_half := def_ok (n := 40) E.ok (hyG E (n := 37) (.cons (g_need E) ((ok_need E).up (by decide)) (.cons (g_len E) len_ok (.cons (g_from_little E) ((ok_from_little E).up (by decide)) (.cons (g_signed E) ((ok_signed E).up (by decide)) .nil))))) 12 D_292 sc_292 kp_292 bi_292 (fun _ _ => rfl)
theorem ok_law_row : FnOK (WW w hB mg mb) 77 (.ref 333) F_law_row := def_ok (n := 40) E.ok (hyG E (n := 37) (.cons (g_law_codes E) ((ok_law_codes E).up (by decide)) (.cons (g_len E) len_ok .nil))) 12 D_333 sc_333 kp_333 bi_333 (fun _ _ => rfl)
theorem ok_law_due : FnOK (WW w hB mg mb) 114 (.ref 359) F_law_due := def_ok (n := 77) E.ok (hyG E (n := 74) (.cons (g_law_number E) ((ok_law_number E).up (by decide)) (.cons (g_law_is E) ((ok_law_is E).up (by decide)) (.cons (g_sum E) ((sum2_ok (n := 1)).up (by decide)) .nil)))) 12 D_359 sc_359 kp_359 bi_359 (fun _ _ => rfl)
theorem ok_pack : FnOK (WW w hB mg mb) 225 (.ref 285) F_pack := def_ok (n := 188) E.ok (hyG E (n := 185) (.cons (g_check_order E) ((ok_check_order E).up (by decide)) (.cons (g_bytes E) bytes_ok (.cons (g_little E) ((ok_little E).up (by decide)) (.cons (g_is_wide E) ((ok_is_wide E).up (by decide)) .nil))))) 12 D_285 sc_285 kp_285 bi_285 (fun _ _ => rfl)
theorem hy_unpack : Hy (WW w hB mg mb) G_unpack 188 := hyG E (n := 185) (.cons (g_need E) ((ok_need E).up (by decide)) (.cons (g_len E) len_ok (.cons (g_from_little E) ((ok_from_little E).up (by decide)) (.cons (g_signed E) ((ok_signed E).up (by decide)) (.cons (g_Order E) ((ok_Order E).up (by decide)) (.cons (g_is_wide E) ((ok_is_wide E).up (by decide)) (.cons (g_second_half E) ((ok_second_half E).up (by decide)) (.cons (g_check_order E) ((ok_check_order E).up (by decide)) .nil))))))))
theorem ok_unpack : FnOK (WW w hB mg mb) 225 (.ref 300) F_unpack where
  kp := .inr kp_300
  run := fun A X s vs args S r hne => by
    have two : ∀ (all : List Value) (a b : PV), BindsTo s fd_300 ⟨vs, []⟩ ([Str.ofString "octets", Str.ofString "at"].zip all) -> Reps (WW w hB mg mb) s.heap X all [a, b] -> F_unpack2 [a, b] ≠ .stuck -> Ev (WW w hB mg mb) A X s (call (.ref 300) vs) (F_unpack2 [a, b]) :=
      fun all a b hb r2 h2 => def_run (n := 188) E.ok (hy_unpack E) 12 D_300 sc_300 S hb r2 h2
    have XK := E.ok.inK S.base
    cases r with
    | nil => exact (hne rfl).elim
    | cons r1 r =>
      cases r with
      | nil => exact two _ _ _ (bind300_1 _ _ s XK) (.cons r1 (.cons (.int 0 580) .nil)) hne
      | cons r2 r =>
        cases r with
        | nil => exact two _ _ _ (bind300_2 _ _ _ s XK) (.cons r1 (.cons r2 .nil)) hne
        | cons r3 r => exact (hne rfl).elim
theorem ok_law_made_right : FnOK (WW w hB mg mb) 262 (.ref 378) F_law_made_right := def_ok (n := 225) E.ok (hyG E (n := 222) (.cons (g_law_number E) ((ok_law_number E).up (by decide)) (.cons (g_sum E) ((sum2_ok (n := 1)).up (by decide)) (.cons (g_Order E) ((ok_Order E).up (by decide)) (.cons (g_check_order E) ((ok_check_order E).up (by decide)) (.cons (g_pack E) ((ok_pack E).up (by decide)) .nil)))))) 12 D_378 sc_378 kp_378 bi_378 (fun _ _ => rfl)
theorem ok_law_row_right : FnOK (WW w hB mg mb) 262 (.ref 373) F_law_row_right := def_ok (n := 225) E.ok (hyG E (n := 222) (.cons (g_unpack E) ((ok_unpack E).up (by decide)) (.cons (g_bytes E) bytes_ok (.cons (g_len E) len_ok (.cons (g_Order E) ((ok_Order E).up (by decide)) (.cons (g_pack E) ((ok_pack E).up (by decide)) (.cons (g_check_order E) ((ok_check_order E).up (by decide)) .nil))))))) 12 D_373 sc_373 kp_373 bi_373 (fun _ _ => rfl)
end
section
variable {W : Wd} {G : Gl} {n : Nat} {J : I} {A : Around} {X : Addr -> Prop} {sc : Scope} {env : Env} {L : Addr} {old : Nat} {E : Value -> Shared -> Prop}
theorem blockN (Yh : Hy W G n) (SE : SndE W n J) (ST : SndT W n J) (SB : SndB W n J) {rest : List Stmt} {Q : Flow -> Shared -> Prop} {o : Res} : ∀ (l : List Stmt) (σ : Vars) (s : Shared), Run W n A X sc σ env L old s -> exB J sc l σ = .ok o ->
    (∀ σ' s', o = .next σ' -> Run W n A X sc σ' env L old s' -> StepS W (YF sc env L) s s' -> wpN (model W.prog W.w) A (execs rest env) Q E s') ->
    (∀ p v s', o = .ret p -> Rep W s'.heap X v p -> StepS W (YF sc env L) s s' -> Q (.ret v) s') -> wpN (model W.prog W.w) A (execs (l ++ rest) env) Q E s
  | [], σ, s, H, e, hn, _ => hn σ s (by cases e; rfl) H (StepS.refl H.S.base)
  | st :: r, σ, s, H, e, hn, hr => by
    rw [b_cons] at e
    have hne : exS J sc σ st ≠ .stuck := by intro q; rw [q] at e; cases e
    refine wpN_execs_cons (wpN_any (wpAny_mono (snd_stmt Yh SE ST SB H hne) (fun f s1 q => ?_) fun e1 s1 q => ?_))
    · rcases q with ⟨σ1, e1, rfl, F1, t1⟩ | ⟨p, v, e1, rfl, r1, t1⟩
      · rw [e1] at e
        exact blockN Yh SE ST SB r σ1 s1 (H.go t1 F1) e (fun σ' s' a b c => hn σ' s' a b (t1.trans c)) fun p v s' a b c => hr p v s' a b (t1.trans c)
      · rw [e1] at e
        cases e
        exact hr p v s1 rfl r1 t1
    · obtain ⟨pa, e2, _⟩ := q
      rw [e2] at e; cases e
end
section
variable {w : World} {hB : Heap} {mg mb : Str -> Option Value} {A : Around} {X : Addr -> Prop} {s : Shared} {Ex : Value -> Shared -> Prop}
theorem ok_unpack_all (E : Env0 w hB mg mb) : FnOK (WW w hB mg mb) 238 (.ref 314) (uaP F_unpack) :=
  ua_ok (n := 225) E.ok (gf E (by kernel_rfl)) (glob_blt E (q := "Exception") (mem_of_lookup (by kernel_rfl)) (by decide) k_zexc) (glob_blt E (q := "len") (mem_of_lookup (by kernel_rfl)) (by decide) (by kernel_rfl))
    (hyD E (n := 222) (fun _ _ h => nomatch h) fun f F h => by
      unfold Gua at h
      dsimp only at h
      split at h
      · rename_i hf
        cases h
        rw [eq_of_beq hf]
        exact ⟨_, glob_blt E (q := "len") (mem_of_lookup (by kernel_rfl)) (by decide) (by kernel_rfl), len_ok⟩
      · split at h
        · rename_i hf
          cases h
          rw [eq_of_beq hf]
          exact ⟨_, gf E (by kernel_rfl), (ok_unpack E).up (by decide)⟩
        · cases h)
theorem hy_law (E : Env0 w hB mg mb) : Hy (WW w hB mg mb) GLaw 262 := hyG E (n := 259)
  (l := [("_law_row", F_law_row), ("_law_due", F_law_due), ("_law_row_right", F_law_row_right), ("_law_made_right", F_law_made_right), ("bytes", bytesP), ("sum", sumP2), ("unpack_all", uaP F_unpack), ("len", lenP), ("Order", ordP)])
  (.cons (gf E (by kernel_rfl)) ((ok_law_row E).up (by decide)) (.cons (gf E (by kernel_rfl)) ((ok_law_due E).up (by decide)) (.cons (gf E (by kernel_rfl)) (ok_law_row_right E) (.cons (gf E (by kernel_rfl)) (ok_law_made_right E)
    (.cons (glob_blt E (q := "bytes") (mem_of_lookup (by kernel_rfl)) (by decide) (by kernel_rfl)) bytes_ok (.cons (glob_blt E (q := "sum") (mem_of_lookup (by kernel_rfl)) (by decide) (by kernel_rfl)) ((sum2_ok (n := 1)).up (by decide))
      (.cons (gf E (by kernel_rfl)) ((ok_unpack_all E).up (by decide)) (.cons (glob_blt E (q := "len") (mem_of_lookup (by kernel_rfl)) (by decide) (by kernel_rfl)) len_ok (.cons (gf E (by kernel_rfl)) ((ok_Order E).up (by decide)) .nil)))))))))
theorem sAt_0 (a : Stmt) (as : List Stmt) : sAt (a :: as) 0 = a := rfl
theorem sAt_s (a : Stmt) (as : List Stmt) (i : Nat) : sAt (a :: as) (i + 1) = sAt as i := rfl
theorem s8_is : ∃ e p1 p2 p3 p4 p5, sAt bLaw 8 = .Return (some (.Compare (.Call (.Name "pack_all" p1) [e] [] p2) [.Eq] [.Name "whole_row" p3] p4)) p5 /\ pArg (sAt bLaw 8) = e := by
  simp only [bLaw, d_law, fBody, sAt_0, sAt_s]
  exact ⟨_, _, _, _, _, _, rfl, rfl⟩
theorem g_383 : fd_383.scope.names.lookup (Str.ofString "pack_all") = some .globalImplicit := by kernel_rfl
theorem okE_sub {ah : List UInt8} {rs : List (List UInt8)} {x0 : PV} {σ : Vars} (h : okE (E3 ah rs x0) σ) (x : Str) (p : PV) (e : List.lookup x (E3 ah rs x0) = some p) : List.lookup x σ = some p := by
  rcases h with rfl | ⟨o, d, rfl⟩
  · exact e
  · rw [List.lookup_cons, List.lookup_cons]
    cases h1 : (x == Str.ofString "due") with
    | true => rw [eq_of_beq h1] at e; exact nomatch (show none = some p from e)
    | false => cases h2 : (x == Str.ofString "octs") with
      | true => rw [eq_of_beq h2] at e; exact nomatch (show none = some p from e)
      | false => exact e
theorem Run.sub {W : Wd} {n : Nat} {A : Around} {X : Addr -> Prop} {sc : Scope} {σ σ' : Vars} {env : Env} {L : Addr} {old : Nat} {s : Shared} (H : Run W n A X sc σ env L old s) (e : ∀ x p, σ'.lookup x = some p -> σ.lookup x = some p) : Run W n A X sc σ' env L old s := { H with F := H.F.sub e }
theorem law_N (E : Env0 w hB mg mb) {cells : List Int} (hc : cells.length <= 63) {v : Value} (S : Sit (WW w hB mg mb) 296 A X s) (r : Rep (WW w hB mg mb) s.heap X v (.list (cells.map .int))) :
    wpN (model (WW w hB mg mb).prog w) A (call (.ref 383) [v]) (Post (WW w hB mg mb) s (RV (WW w hB mg mb) X) (.ok (.bool true))) Ex s := by
  obtain ⟨SE, ST, SB⟩ := run_sound (hy_law E) 11
  have Y2 : Hy (WW w hB mg mb) GLaw 295 := (hy_law E).up (by decide)
  refine wpN_call (def_inN (n := 295) (X := X) E.ok D_383 sc_383 S.to0 (BindsTo.of_eq (bi_383 [v] rfl)) (.cons r .nil) fun env s1 t1 S1 T1 F1 => ?_)
  have back : ∀ s3, Step (WW w hB mg mb) (fun a => s.heap.objs.size <= a) s s3 -> Step (WW w hB mg mb) NoA s s3 := fun s3 t => t.mono fun a ha z => absurd ha (Nat.not_lt.mpr z)
  have H1 : Run (WW w hB mg mb) 295 (A.deeper env) X fd_383.scope [("script", .list (cells.map .int))] env s.heap.objs.size s.heap.objs.size s1 :=
    ⟨⟨S1.base, S1.room, S.hand, S1.fr, fun a z => Nat.lt_of_lt_of_le (S.priv a z) t1.size⟩, T1, F1, S.base.size, t1.size⟩
  have hs : fBody d_law.1 = [sAt bLaw 0, sAt bLaw 1, sAt bLaw 2, sAt bLaw 3] ++ ([sAt bLaw 4, sAt bLaw 5, sAt bLaw 6, sAt bLaw 7] ++ [sAt bLaw 8]) := law_split
  rw [hs]
  obtain ⟨ah, rs, σa, hR, hrs, hf, hok⟩ := law_first cells hc
  refine blockN Y2 SE ST SB _ _ s1 H1 hf (fun σ' s0 h H0 t0 => ?_) fun p u s' h _ _ => nomatch h
  cases h
  replace t1 := t1.trans (H1.yo t0)
  replace H1 := H0.sub (okE_sub hok)
  clear H0 t0 S1 F1
  rcases law_rest hR hrs ah (.list (cells.map .int)) with hp | ⟨σ, os, bs, hp, h8, hk, hz, hw⟩
  · refine blockN Y2 SE ST SB _ _ s0 H1 hp (fun σ' s' h _ _ => nomatch h) fun p u s' h ru t2 => ?_
    cases h
    exact ⟨_, rfl, ru, back _ (t1.trans (H1.yo t2))⟩
  · refine blockN Y2 SE ST SB _ _ s0 H1 hp (fun σ' s2 h H2 t2 => ?_) fun p u s' h _ _ => nomatch h
    cases h
    obtain ⟨e, p1, p2, p3, p4, p5, e8, ea⟩ := s8_is
    rw [ea] at h8
    rw [e8]
    have hst : isStar e = false := by rw [<- ea]; kernel_rfl
    refine wpN_execs_cons (wpN_Return_some (wpN_Compare1 (wpN_Call_ofName (wpAny_Name (loadName_glob E.ok H2.S.base H2.F.envOK g_383 (glob_fn (a := 307) E.ok (mem_of_lookup (by kernel_rfl))) ?_) (by decide))) (by rfl)))
    refine callWithN (P := (WW w hB mg mb).K.In) (by rw [List.any_cons, hst]; rfl) (keeper_of (.inr kp_307)) ?_
    have h8' : (run GLaw 11).e fd_383.scope σ e = .ok (.list os) := h8
    have hev : evList (run GLaw 11) fd_383.scope σ [e] = .ok [.list os] := by
      rw [l_cons, if_neg (by rw [hst]; exact Bool.false_ne_true), h8', bd_ok, kL_, l_nil, bd_ok, kL2_]
    have h3 := snd_evList SE (pos := p2) [e] s2 H2.here (by rw [hev]; exact nofun)
    rw [hev] at h3
    refine wpAny_mono h3 (fun vs s3 q => ?_) fun e' s3 q => ?_
    · obtain ⟨a, ha, rr, t3⟩ := q
      cases ha
      obtain ⟨v1, rfl, r1⟩ := rr.is1
      have H3 := H2.no t3
      refine ⟨E.ok.inK t3.base, ?_⟩
      refine wpN_mono (packall_N (n := 294) E.ok (glob_blt E (q := "bytearray") (mem_of_lookup (by kernel_rfl)) (by decide) (by kernel_rfl)) (glob_blt E (q := "bytes") (mem_of_lookup (by kernel_rfl)) (by decide) (by kernel_rfl)) (gf E (by kernel_rfl)) ((ok_pack E).up (by decide)) hk hz H3.S r1 (E := fun _ _ => False)) (fun u s4 q => ?_) fun _ _ q => q.elim
      obtain ⟨a, ha, r4, t4⟩ := q
      cases ha
      have H4 := H3.no t4
      refine wpAny_Name (loadName_var H4.F.envOK hw fun u2 r5 => ?_) (by decide)
      have hcm : cmpop .Eq (.bytes bs) (.bytes bs) = .ok (.bool true) := by
        show Out.ok (PV.bool (bs == bs)) = _
        rw [beq_self_eq_true]
      refine wpAny_mono (snd_cmpop H4.S (op := .Eq) r4 r5 (by rw [hcm]; exact nofun)) (fun u3 s5 q => ?_) fun _ _ q => q
      rw [hcm] at q
      obtain ⟨a, ha, r6, t6⟩ := q
      cases ha
      exact ⟨_, rfl, r6, back _ (t1.trans (((H1.yo t2).trans (t3.no.trans (t4.no.trans t6.no)))))⟩
    · obtain ⟨pa, hpa, _⟩ := q
      cases hpa
end
noncomputable abbrev rr : RowW := PySem.Challenge.rw_nu0355_01.row.toRowW
noncomputable abbrev XPq : (Str -> Option Value) -> Heap -> Prop := XL qq []
theorem tab_ne (P : Params) {P' : Addr} (h : P' = 368 \/ P' = 375 \/ P' = 380) {a : Addr} {o : Obj} (e : (K P).lookup a = some o) : P' ≠ a := by
  intro q
  subst q
  have h1 : (K P).lookup 368 = none := by kernel_rfl
  have h2 : (K P).lookup 375 = none := by kernel_rfl
  have h3 : (K P).lookup 380 = none := by kernel_rfl
  rcases h with rfl | rfl | rfl
  · rw [h1] at e; cases e
  · rw [h2] at e; cases e
  · rw [h3] at e; cases e
theorem once_each {l : List (Addr × Addr × Str)} : (l.map (·.2.1)).Nodup -> ∀ x ∈ l, ∀ y ∈ l, x.2.1 = y.2.1 -> x = y := by
  induction l with
  | nil => intro _ x hx; nomatch hx
  | cons a r ih =>
    intro hn x hx y hy e
    rw [List.map_cons, List.nodup_cons] at hn
    rcases List.mem_cons.mp hx with e1 | hx1
    · rcases List.mem_cons.mp hy with e2 | hy1
      · rw [e1, e2]
      · exact (hn.1 (by rw [<- e1, e]; exact List.mem_map_of_mem hy1)).elim
    · rcases List.mem_cons.mp hy with e2 | hy1
      · exact (hn.1 (by rw [<- e2, <- e]; exact List.mem_map_of_mem hx1)).elim
      · exact ih hn.2 x hx1 y hy1 e
section
variable {w : World} {s₀ : Shared} {h : Heap} {mg mb : Str -> Option Value}
theorem tab_in {x : Addr × Addr × Str} (hx : x ∈ (WW w h mg mb).tabs) : x.2.1 = 368 \/ x.2.1 = 375 \/ x.2.1 = 380 := by
  rcases List.mem_cons.mp hx with rfl | hx
  · exact .inl rfl
  rcases List.mem_cons.mp hx with rfl | hx
  · exact .inr (.inl rfl)
  rcases List.mem_cons.mp hx with rfl | hx
  · exact .inr (.inr rfl)
  · cases hx
theorem tab_mem {P : Addr} (h : P = 368 \/ P = 375 \/ P = 380) : P ∈ [375, 368, 380] := by
  rcases h with rfl | rfl | rfl <;> decide
theorem env_of (T : Top qq (looseW qq lz) (ExcName.means s₀.heap) mg mb h) (Y : hk.says w h) : Env0 w h mg mb where
  blt := T.builtins
  ok := by
    have XK : (K w.params).In h := km_in_of Y
    have tb := km_tabs_of Y
    refine ⟨T.g, T.b, T.nolimit, XK, fun x hx => ?_, fun a o e x hx => tab_ne _ (tab_in hx) e, fun x hx => ?_, fun x hx => ?_, fun x hx y hy e => ?_, fun x hx => ?_⟩
    · have q := tab_in hx
      refine ⟨?_, ?_, ?_⟩ <;> (intro z; rw [z] at q; revert q; decide)
    · rcases List.mem_cons.mp hx with rfl | hx
      · exact codeHd_of_K XK (by show codeHdIn (K w.params) _ _ = true; kernel_rfl)
      rcases List.mem_cons.mp hx with rfl | hx
      · exact codeHd_of_K XK (by show codeHdIn (K w.params) _ _ = true; kernel_rfl)
      rcases List.mem_cons.mp hx with rfl | hx
      · exact codeHd_of_K XK (by show codeHdIn (K w.params) _ _ = true; kernel_rfl)
      · cases hx
    · obtain ⟨bm, ob, b1, b2, b3, b4, b5, b6⟩ := T.bmain
      refine ⟨bm, ob, b1, b2, fun z => ?_, fun z => ?_, b3, b4, b5, b6⟩
      · obtain ⟨o, es, ep, ho, hd, _⟩ := T.g
        rw [<- z, b3] at ho
        cases ho
        rw [b6] at hd; cases hd
      · rw [z, tb _ (tab_mem (tab_in hx))] at b3
        cases b3
        cases b4
    · exact once_each (by show List.Nodup [368, 375, 380]; decide) x hx y hy e
    · exact ⟨_, _, tb _ (tab_mem (tab_in hx)), rfl, rfl⟩
theorem base_of (E : Env0 w h mg mb) (Y : hk.says w h) : Base (WW w h mg mb) h where
  old := fun b o e _ => e
  tab := fun x hx => ⟨#[], km_tabs_of Y _ (tab_mem (tab_in hx)), by simp [TriplesOk], fun pos cv q => by simp [codeAmong] at q⟩
  size := Nat.le_refl _
end
theorem pre_of {args : List WData} (h : rr.claim.pre args = true) : ∃ cells : List Int, args = [.list (cells.map .int)] /\ cells.length <= 63 := by
  have h' : (WShape.hasAll [] args [.list .int] && WTm.holds [] (.and (.not (.lt (.lit (.int 63)) (.len (.arg 0)))) (.lit (.bool true))) { args := args }) = true := h
  obtain ⟨h1, h2⟩ := Bool.and_eq_true_iff.mp h'
  obtain ⟨d, r, rfl, e1, e2⟩ := hasAllW_cons h1
  obtain rfl := hasAllW_nil e2
  obtain ⟨xs, rfl, e3⟩ := hasW_list e1
  obtain ⟨ns, rfl⟩ := items_int e3
  refine ⟨ns, rfl, ?_⟩
  obtain ⟨h3, _⟩ := holds_andW h2
  have e4 : (WTm.not (.lt (.lit (.int 63)) (.len (.arg 0)))).value [] { args := [.list (ns.map .int)] } = some (.bool (!decide ((63 : Int) < (ns.map WData.int).length))) := w_not (w_lt rfl (w_len_list rfl))
  unfold WTm.holds at h3
  rw [e4] at h3
  by_cases q : (63 : Int) < (ns.map WData.int).length
  · rw [decide_eq_true q] at h3
    cases h3
  · rw [List.length_map] at q
    omega
theorem post_of {ds : List WData} {args : List WData} : rr.claim.post args (.bool true) ds = true := by kernel_rfl
theorem no_raise {args : List WData} (c : ExcName) : rr.claim.raises args c = false := rfl
theorem rep_ints {W : Wd} {X : Addr -> Prop} {R : WRecords} {cl : Str -> Option Addr} {h : Heap} (cells : List Int) : ∀ {vs : List Value} {as : List Addr}, ReadsAllW R cl h vs (cells.map .int) as -> Reps W h X vs (cells.map .int) := by
  induction cells with
  | nil =>
    intro vs as r
    obtain ⟨rfl, _⟩ := readsAllW_nil_inv r
    exact .nil
  | cons i l ih =>
    intro vs as r
    obtain ⟨v, us, a, b, rfl, _, r1, r2⟩ := readsAllW_cons_inv r
    obtain ⟨t, rfl, _⟩ := readsW_int_inv r1
    exact .cons (.int _ t) (ih r2)
theorem rep_script {W : Wd} {w : World} {s₀ s₁ : Shared} {cells : List Int} {vals : List Value} {as : List Addr} (L : Laid [] w s₀ s₁ [.list (cells.map .int)] vals as) : ∃ v, vals = [v] /\ Rep W s₁.heap (fun _ => False) v (.list (cells.map .int)) := by
  have hnew := fun a (h : a ∈ as) => L.new h
  obtain ⟨v, us, a, b, rfl, ea, r1, r2⟩ := readsAllW_cons_inv L.reads
  obtain ⟨rfl, _⟩ := readsAllW_nil_inv r2
  obtain ⟨l, o, its, n, ai, rfl, ho, hc, hd, hr, el⟩ := readsW_list_open r1
  have e := L.list (hnew l (by rw [ea, el]; exact .head _)) ho hc hd
  exact ⟨_, rfl, .list (n := 0) ho hc (by rw [e, Array.toArray_toList]) (fun q => q) (by rw [e]) (rep_ints cells hr)⟩
theorem oldK_of {w : World} {h h' : Heap} {mg mb : Str -> Option Value} (E : Env0 w h mg mb) (Y : hk.says w h) (B : Base (WW w h mg mb) h') : OldK h h' := by
  have tb := km_tabs_of Y
  refine ⟨fun b o e => ?_, fun b o e => ?_⟩
  · by_cases q : ∃ x ∈ (WW w h mg mb).tabs, x.2.1 = b
    · obtain ⟨x, hx, rfl⟩ := q
      have e0 := tb _ (tab_mem (tab_in hx))
      rw [e0] at e
      cases e
      obtain ⟨ps, e1, _⟩ := B.tab x hx
      obtain ⟨o, vs, _, _, _, _, _, _, _, c1, c2, c3, c4, _⟩ := E.ok.hd x hx
      exact .inr (.inl ⟨⟨_, o, vs, c1, c2, c3, c4⟩, rfl, #[], ps, rfl, by rw [e1, Array.empty_append]⟩)
    · exact .inl (B.old b o e fun x hx z => q ⟨x, hx, z⟩)
  · by_cases q : ∃ x ∈ (WW w h mg mb).tabs, x.2.1 = b
    · obtain ⟨x, hx, rfl⟩ := q
      obtain ⟨ps, e1, _⟩ := B.tab x hx
      exact ⟨_, e1⟩
    · exact ⟨o, B.old b o e fun x hx z => q ⟨x, hx, z⟩⟩
theorem clean0 : Clean ⟨.builtin "claim.caller" {}, none, none, [], none⟩ := ⟨by kernel_rfl, fun x hx => nomatch hx⟩
section
variable {w : World} {s₀ s₁ : Shared} {mg mb : Str -> Option Value}
theorem sit_of (E : Env0 w s₁.heap mg mb) (Y : hk.says w s₁.heap) : Sit (WW w s₁.heap mg mb) 296 callerA (fun _ => False) s₁ where
  base := base_of E Y
  room := ⟨by decide, by decide⟩
  hand := rfl
  fr := ⟨[], rfl, fun z hz => nomatch hz⟩
  priv := fun a h => h.elim
theorem law_good (E : Env0 w s₁.heap mg mb) (Y : hk.says w s₁.heap) {args : List WData} {vals : List Value} {as : List Addr} (hpre : rr.claim.pre args = true) (L : Laid rr.records w s₀ s₁ args vals as) :
    wpN (model PySem.Challenge.pw_nu0355_01 w) callerA (call (.ref 383) vals) (fun v s' => GoodWG rr.claim (classAt s₀.heap) (ExcName.means s₀.heap) args s₁ (.ok (.ret v)) s') (fun _ _ => False) s₁ := by
  obtain ⟨cells, rfl, hc⟩ := pre_of hpre
  obtain ⟨v, rfl, rv⟩ := rep_script (W := WW w s₁.heap mg mb) L
  refine wpN_mono (law_N E hc (sit_of E Y) rv) (fun u s' q => ?_) fun _ _ q => q
  obtain ⟨a, ha, ru, t⟩ := q
  cases ha
  obtain rfl := ru.isBool
  refine ⟨.inl ⟨_, .bool true, [], rfl, no_raise, .bool true, post_of, fun _ => ⟨List.nodup_nil, fun a h => nomatch h⟩⟩, oldK_of E Y t.base, t.os, ?_⟩
  exact .of_eq (t.gens.trans L.gens)
theorem stub_good (E : Env0 w s₁.heap mg mb) (Y : hk.says w s₁.heap) {args : List WData} {vals : List Value} {as : List Addr} (hpre : rr.claim.pre args = true) (L : Laid rr.records w s₀ s₁ args vals as) :
    wpN (model PySem.Challenge.pw_nu0355_01 w) callerA (callStub "law" vals).cur (fun fin s' => ∃ v, fin = .done (.ret v) /\ GoodWG rr.claim (classAt s₀.heap) (ExcName.means s₀.heap) args s₁ (.ok (.ret v)) s') (fun _ _ => False) s₁ := by
  have hl : mg (Str.ofString "law") = some (.ref 383) := by
    rcases glob_fn E.ok (x := Str.ofString "law") (a := 383) (mem_of_lookup (by kernel_rfl)) with h | h
    · exact h
    · have := List.all_eq_true.mp (fns_at w.params) (Str.ofString "law", 383) (mem_of_lookup (by kernel_rfl))
      rw [<- mg_is E.ok] at this
      rw [show mg (Str.ofString "law") = none from h.1] at this
      cases this
  show wpN _ callerA (do match <- nsGet mainNs "law" with
      | some f => do ret (<- call f vals)
      | none => unsupported "claim.caller:no-such-global") _ _ s₁
  refine wpN_bindA (wpAny_nsGet E.ok.g ?_)
  have hl2 : (WW w s₁.heap mg mb).mg (Str.ofString "law") = some (.ref 383) := hl
  rw [hl2]
  exact wpN_bind (wpN_mono (law_good E Y hpre L) (fun v s' q => wpN_pure ⟨v, rfl, q⟩) fun _ _ q => q)
theorem call_from (hz : s₀.asleep) (hg : s₀.gens = #[]) (G : Ground qq lz rr.records XPq w s₀ mg mb s₀.heap) (Y : hk.says w s₀.heap) (free : Addr -> Prop) (gens : Prop) (kept : Heap -> Prop) (hk' : ∀ h, kept h) :
    rr.claim.CallFrom (callStub "law") w free gens kept s₀ := by
  intro args hpre hlay ord hord
  obtain ⟨⟨vs, s₁⟩, hlaid⟩ := Option.isSome_iff_exists.mp (layAllW_isSome (P := w.params) (ord := ord) G.has args rr.args s₀ (pre_splitW hpre).1)
  have keeps := layAllW_keeps _ _ _ hlaid
  have hal := layAllW_rest _ _ _ hlaid
  obtain ⟨as, hrd, hin, hold⟩ := reads_layAllW hord _ _ _ hlaid hlay s₁.heap (fun _ _ e => e)
  have L : Laid rr.records w s₀ s₁ args vs as := ⟨⟨ord, hord, hlaid⟩, hrd, hin, hold, keeps, hal.1.trans hg, hal.2.2.1⟩
  have T1 := G.T.keeps keeps
  have Y1 : hk.says w s₁.heap := hk.keeps w _ _ Y keeps
  have E := env_of T1 Y1
  have run := stub_good E Y1 hpre L _ default clean0 caller_in
  obtain ⟨n, r, s', s'', hsch, hrun, hfo, hR⟩ := wp_halts_full (M := model PySem.Challenge.pw_nu0355_01 w) (R := fun r s' => ∃ v, r = .ok (.ret v) /\ GoodWG rr.claim (classAt s₀.heap) (ExcName.means s₀.heap) args s₁ (.ok (.ret v)) s') (Shared.asleep_of_life hal.2.2.2 hz)
    (Sem.wp_mono _ _ _ (fun fin p s2 q => by
      obtain ⟨v, rfl, q⟩ := q
      exact ⟨⟨v, rfl, q⟩, leftWithCleanup_false_of_bare q.2.2.2⟩) (fun _ _ _ q => q.elim) _ _ run)
  obtain ⟨v, rfl, q⟩ := hR
  obtain ⟨z1, z2, z3⟩ := q.laid (c := rr.claim) rfl rfl (ident_freeW rfl rfl rfl) L
  obtain ⟨eh, _, _, eo, _⟩ := Shared.forget_eq hfo
  have z1' := z1.congr eh
  have hlife : s''.heap.life = s₀.heap.life := (runN_life _ _ _ hrun).trans hal.2.2.2
  refine ⟨vs, s₁, hlaid, n, _, s'', hsch, ?_, (fun _ i x hx => by rw [hg] at hx; simp at hx), hk' _, by rw [hlife], Shared.rest_eq (eo.trans z2)⟩
  rcases z1' with ⟨v', e, d1, d2, d3, d4, d5⟩ | ⟨e, ob, cls, e1, _⟩
  · cases e
    exact .inl ⟨v, rfl, d1, d2, d3, fun b o y _ => d4 b o y, d5⟩
  · cases e1
end
theorem law_holds (said : PySem.Challenge.rw_nu0355_01.row.wellSaid = true) (hw : rr.promised) : PySem.Challenge.rw_nu0355_01.row.Holds := by
  have ok : (chainsOk qq && opensWell rr.prog) = true := by decide +kernel
  obtain ⟨hch, ow⟩ := Bool.and_eq_true_iff.mp ok
  have hb : rr.prog.bare := ⟨rfl, rfl, rfl, rfl, rfl, by decide +kernel⟩
  obtain ⟨kwd, d, hdef, hp, hkw⟩ : ∃ kwd d, defOf qq rr.name = some (d, kwd) /\ rr.prog.theDef rr.name = some (d.params, d.body, d.scope) /\ kwWritten? d.params.kwonlyargs d.params.kw_defaults = some kwd := ⟨_, _, rfl, rfl, rfl⟩
  have hX : ∀ s, Xt s = true -> XPq (s.heap.nsMap mainGlobals) s.heap := fun s e => xl_of s (Bool.and_eq_true_iff.mp e).1
  refine ⟨said, hw, ⟨hb, ow, rfl⟩, hw.witness, fun w => ⟨(left_ok.behind hX hch w).1, fun s' hs' => ?_⟩⟩
  obtain ⟨s₀, hf, hg0, s, hT, hz, hgens, hg, G, y⟩ := (left_ok.behind (XP := XPq) hX hch w).2 s' hs'
  have hgens : s.gens = #[] := Array.eq_empty_of_size_eq_zero (beq_iff_eq.mp hgens)
  refine ⟨s₀, hf, hg0, s, hT, fun n hn => ?_, fun x hx => (nomatch hx), fun x hx => (nomatch hx), call_from hz hgens G (hk.of w s y) _ _ _ fun h q => (nomatch q)⟩
  obtain rfl : n = rr.name := by
    rcases List.mem_cons.mp hn with h | h
    · exact h
    · cases h
  exact pinned_of_view hg G hdef hp hkw
end Mine
theorem PySem.Challenge.cw_nu0355_01_holds : PySem.Challenge.rw_nu0355_01.Holds :=
  ⟨Mine.ws_ok, Mine.law_holds (row_said Mine.ws_ok) ⟨[.list []], by decide +kernel, by decide +kernel⟩⟩
