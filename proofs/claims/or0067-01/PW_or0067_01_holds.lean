import PyProof.Rows.All
import Wide.All
import OpenK.AllK
import Wide.FinOn
import PySem.Challenge.RW_or0067_01
set_option Elab.async false
set_option autoImplicit false
set_option maxHeartbeats 4000000
set_option maxRecDepth 100000
set_option compiler.extract_closed false
set_option linter.unusedVariables false
noncomputable section

/-! ## U1 -/
namespace U
open PySem PyProof.Rows

/-- a part of a heap that stays as it is -/
abbrev Wd := Addr → Option Obj

inductive V where
  | none | bool (b : Bool) | int (i : Int) | str (l : List Nat) | bytes (l : List Nat)
  | bi (id : String) | ty (n : String) | fn (k : Nat) | ref (a : Addr) | inst (d : Addr)
  | tup (l : List V) | list (l : List V)
  | sd (l : List (List Nat × V)) | idd (l : List (Int × V)) | rng (lo hi : Int)

noncomputable def mkS (l : List Nat) : Str := ⟨l.toArray⟩
noncomputable def tupObj (vs : List Value) (n : Nat) : Obj := { cls := .type "tuple", data := .seq vs.toArray n }
noncomputable def listObj (vs : List Value) (n : Nat) : Obj := { cls := .type "list", data := .seq vs.toArray n }
noncomputable def dictObj (es : List DictEntry) (n : Nat) : Obj := { cls := .type "dict", data := .dict es.toArray n }
noncomputable def rngObj (lo hi : Int) (t u v : Tok) : Obj := { cls := .type "range", data := .fields #[.int lo t, .int hi u, .int 1 v] }
noncomputable def curObj (C d : Addr) : Obj := { cls := .ref C, dict := some d }

section
variable (w : World) (ad : Nat → Addr)

mutual
inductive Rel (W : Wd) : Value → V → Prop
  | none : Rel W .none .none
  | bool (b : Bool) : Rel W (.bool b) (.bool b)
  | int (i : Int) (t : Tok) : Rel W (.int i t) (.int i)
  | str (x : Str) (t : Tok) (l : List Nat) (h : x.cps.toList = l) : Rel W (.str x t) (.str l)
  | bytes (b : Array UInt8) (t : Tok) (l : List Nat) (h : b.toList.map UInt8.toNat = l) : Rel W (.bytes b t) (.bytes l)
  | bi (id : String) : Rel W (.builtin id) (.bi id)
  | ty (n : String) : Rel W (.type n) (.ty n)
  | fn (k : Nat) (a : Addr) (h : a = ad k) : Rel W (.ref a) (.fn k)
  | ref (a : Addr) : Rel W (.ref a) (.ref a)
  | rng (a : Addr) (lo hi : Int) (t u v : Tok) (h : W a = some (rngObj lo hi t u v)) : Rel W (.ref a) (.rng lo hi)
  | inst (x d : Addr) (h : W x = some (curObj (ad 7) d)) : Rel W (.ref x) (.inst d)
  | tup (a : Addr) (vs : List Value) (n : Nat) (l : List V) (h : W a = some (tupObj vs n)) (r : RelL W vs l) : Rel W (.ref a) (.tup l)
  | list (a : Addr) (vs : List Value) (n : Nat) (l : List V) (h : W a = some (listObj vs n)) (r : RelL W vs l) : Rel W (.ref a) (.list l)
  | sd (a : Addr) (es : List DictEntry) (n : Nat) (l : List (List Nat × V)) (ne : a ≠ sysModules) (h : W a = some (dictObj es n)) (r : RelS W es l) : Rel W (.ref a) (.sd l)
  | idd (a : Addr) (es : List DictEntry) (n : Nat) (l : List (Int × V)) (ne : a ≠ sysModules) (h : W a = some (dictObj es n)) (r : RelI W es l) : Rel W (.ref a) (.idd l)
inductive RelL (W : Wd) : List Value → List V → Prop
  | nil : RelL W [] []
  | cons (v : Value) (x : V) (vs : List Value) (l : List V) (h : Rel W v x) (r : RelL W vs l) : RelL W (v :: vs) (x :: l)
inductive RelS (W : Wd) : List DictEntry → List (List Nat × V) → Prop
  | nil : RelS W [] []
  | cons (k : Str) (t : Tok) (v : Value) (x : V) (es : List DictEntry) (l : List (List Nat × V)) (h : Rel W v x) (r : RelS W es l) :
      RelS W (⟨hashStr w k, .str k t, v⟩ :: es) ((k.cps.toList, x) :: l)
inductive RelI (W : Wd) : List DictEntry → List (Int × V) → Prop
  | nil : RelI W [] []
  | cons (k : Int) (t : Tok) (hs : Int) (v : Value) (x : V) (es : List DictEntry) (l : List (Int × V)) (hh : hs = hashInt k) (h : Rel W v x) (r : RelI W es l) :
      RelI W (⟨hs, .int k t, v⟩ :: es) ((k, x) :: l)
end

noncomputable def Le (W W' : Wd) : Prop := ∀ b o, W b = some o → W' b = some o
theorem Le.refl (W : Wd) : Le W W := fun _ _ h => h
theorem Le.trans {W W' W'' : Wd} (h : Le W W') (k : Le W' W'') : Le W W'' := fun b o e => k b o (h b o e)

theorem Rel.mono {W W' : Wd} (m : Le W W') {v : Value} {x : V} (h : Rel w ad W v x) : Rel w ad W' v x :=
  Rel.rec (motive_1 := fun v x _ => Rel w ad W' v x) (motive_2 := fun vs l _ => RelL w ad W' vs l) (motive_3 := fun es l _ => RelS w ad W' es l) (motive_4 := fun es l _ => RelI w ad W' es l)
    .none .bool .int .str .bytes .bi .ty .fn .ref (fun a lo hi t u v h => .rng a lo hi t u v (m _ _ h)) (fun x d h => .inst x d (m _ _ h)) (fun a vs n l h _ ih => .tup a vs n l (m _ _ h) ih) (fun a vs n l h _ ih => .list a vs n l (m _ _ h) ih)
    (fun a es n l ne h _ ih => .sd a es n l ne (m _ _ h) ih) (fun a es n l ne h _ ih => .idd a es n l ne (m _ _ h) ih) .nil (fun v x vs l _ _ i k => .cons v x vs l i k) .nil (fun k t v x es l _ _ i j => .cons k t v x es l i j) .nil (fun k t hs v x es l hh _ _ i j => .cons k t hs v x es l hh i j) h
theorem RelL.mono {W W' : Wd} (m : Le W W') {vs : List Value} {l : List V} (h : RelL w ad W vs l) : RelL w ad W' vs l :=
  RelL.rec (motive_1 := fun v x _ => Rel w ad W' v x) (motive_2 := fun vs l _ => RelL w ad W' vs l) (motive_3 := fun es l _ => RelS w ad W' es l) (motive_4 := fun es l _ => RelI w ad W' es l)
    .none .bool .int .str .bytes .bi .ty .fn .ref (fun a lo hi t u v h => .rng a lo hi t u v (m _ _ h)) (fun x d h => .inst x d (m _ _ h)) (fun a vs n l h _ ih => .tup a vs n l (m _ _ h) ih) (fun a vs n l h _ ih => .list a vs n l (m _ _ h) ih)
    (fun a es n l ne h _ ih => .sd a es n l ne (m _ _ h) ih) (fun a es n l ne h _ ih => .idd a es n l ne (m _ _ h) ih) .nil (fun v x vs l _ _ i k => .cons v x vs l i k) .nil (fun k t v x es l _ _ i j => .cons k t v x es l i j) .nil (fun k t hs v x es l hh _ _ i j => .cons k t hs v x es l hh i j) h
theorem RelS.mono {W W' : Wd} (m : Le W W') {es : List DictEntry} {l : List (List Nat × V)} (h : RelS w ad W es l) : RelS w ad W' es l :=
  RelS.rec (motive_1 := fun v x _ => Rel w ad W' v x) (motive_2 := fun vs l _ => RelL w ad W' vs l) (motive_3 := fun es l _ => RelS w ad W' es l) (motive_4 := fun es l _ => RelI w ad W' es l)
    .none .bool .int .str .bytes .bi .ty .fn .ref (fun a lo hi t u v h => .rng a lo hi t u v (m _ _ h)) (fun x d h => .inst x d (m _ _ h)) (fun a vs n l h _ ih => .tup a vs n l (m _ _ h) ih) (fun a vs n l h _ ih => .list a vs n l (m _ _ h) ih)
    (fun a es n l ne h _ ih => .sd a es n l ne (m _ _ h) ih) (fun a es n l ne h _ ih => .idd a es n l ne (m _ _ h) ih) .nil (fun v x vs l _ _ i k => .cons v x vs l i k) .nil (fun k t v x es l _ _ i j => .cons k t v x es l i j) .nil (fun k t hs v x es l hh _ _ i j => .cons k t hs v x es l hh i j) h
theorem RelI.mono {W W' : Wd} (m : Le W W') {es : List DictEntry} {l : List (Int × V)} (h : RelI w ad W es l) : RelI w ad W' es l :=
  RelI.rec (motive_1 := fun v x _ => Rel w ad W' v x) (motive_2 := fun vs l _ => RelL w ad W' vs l) (motive_3 := fun es l _ => RelS w ad W' es l) (motive_4 := fun es l _ => RelI w ad W' es l)
    .none .bool .int .str .bytes .bi .ty .fn .ref (fun a lo hi t u v h => .rng a lo hi t u v (m _ _ h)) (fun x d h => .inst x d (m _ _ h)) (fun a vs n l h _ ih => .tup a vs n l (m _ _ h) ih) (fun a vs n l h _ ih => .list a vs n l (m _ _ h) ih)
    (fun a es n l ne h _ ih => .sd a es n l ne (m _ _ h) ih) (fun a es n l ne h _ ih => .idd a es n l ne (m _ _ h) ih) .nil (fun v x vs l _ _ i k => .cons v x vs l i k) .nil (fun k t v x es l _ _ i j => .cons k t v x es l i j) .nil (fun k t hs v x es l hh _ _ i j => .cons k t hs v x es l hh i j) h
end

/-! ### backwards, one shape at a time (each proved once: a bare «cases» writes all fifteen shapes into every proof) -/
section
variable {w : World} {ad : Nat → Addr} {W : Wd} {v : Value}
noncomputable def Inv (w : World) (ad : Nat → Addr) (W : Wd) (v : Value) : V → Prop
  | .none => v = .none
  | .bool b => v = .bool b
  | .int i => ∃ t, v = .int i t
  | .str l => ∃ x t, v = .str x t ∧ x.cps.toList = l
  | .bytes l => ∃ b t, v = .bytes b t ∧ b.toList.map UInt8.toNat = l
  | .bi id => v = .builtin id
  | .ty n => v = .type n
  | .fn k => v = .ref (ad k)
  | .ref a => v = .ref a
  | .rng lo hi => ∃ a t u z, v = .ref a ∧ W a = some (rngObj lo hi t u z)
  | .inst d => ∃ x, v = .ref x ∧ W x = some (curObj (ad 7) d)
  | .tup l => ∃ a vs n, v = .ref a ∧ W a = some (tupObj vs n) ∧ RelL w ad W vs l
  | .list l => ∃ a vs n, v = .ref a ∧ W a = some (listObj vs n) ∧ RelL w ad W vs l
  | .sd l => ∃ a es n, v = .ref a ∧ a ≠ sysModules ∧ W a = some (dictObj es n) ∧ RelS w ad W es l
  | .idd l => ∃ a es n, v = .ref a ∧ a ≠ sysModules ∧ W a = some (dictObj es n) ∧ RelI w ad W es l
theorem Rel.inv {x : V} (r : Rel w ad W v x) : Inv w ad W v x := by
  cases r with
  | none => rfl
  | bool b => rfl
  | int i t => exact ⟨t, rfl⟩
  | str x t l h => exact ⟨x, t, rfl, h⟩
  | bytes b t l h => exact ⟨b, t, rfl, h⟩
  | bi id => rfl
  | ty n => rfl
  | fn k a h => exact h ▸ rfl
  | ref a => rfl
  | rng a lo hi t u z h => exact ⟨a, t, u, z, rfl, h⟩
  | inst x d h => exact ⟨x, rfl, h⟩
  | tup a vs n l h r => exact ⟨a, vs, n, rfl, h, r⟩
  | list a vs n l h r => exact ⟨a, vs, n, rfl, h, r⟩
  | sd a es n l ne h r => exact ⟨a, es, n, rfl, ne, h, r⟩
  | idd a es n l ne h r => exact ⟨a, es, n, rfl, ne, h, r⟩
theorem Rel.noneE {motive : (v : Value) → Rel w ad W v .none → Prop} (none : motive .none .none) (r : Rel w ad W v .none) : motive v r := by obtain rfl := show v = .none from r.inv; exact none
theorem Rel.boolE {b : Bool} {motive : (v : Value) → Rel w ad W v (.bool b) → Prop} (bool : ∀ _ : Unit, motive (.bool b) (.bool b)) (r : Rel w ad W v (.bool b)) : motive v r := by obtain rfl := show v = .bool b from r.inv; exact bool ()
theorem Rel.intE {i : Int} {motive : (v : Value) → Rel w ad W v (.int i) → Prop} (int : ∀ (_ : Unit) (t : Tok), motive (.int i t) (.int i t)) (r : Rel w ad W v (.int i)) : motive v r := by obtain ⟨t, rfl⟩ := show ∃ t, v = .int i t from r.inv; exact int () t
theorem Rel.strE {l : List Nat} {motive : (v : Value) → Rel w ad W v (.str l) → Prop} (str : ∀ (x : Str) (t : Tok) (_ : Unit) (h : x.cps.toList = l), motive (.str x t) (.str x t l h)) (r : Rel w ad W v (.str l)) : motive v r := by
  obtain ⟨x, t, rfl, h⟩ := show ∃ x t, v = .str x t ∧ x.cps.toList = l from r.inv; exact str x t () h
theorem Rel.bytesE {l : List Nat} {motive : (v : Value) → Rel w ad W v (.bytes l) → Prop} (bytes : ∀ (b : Array UInt8) (t : Tok) (_ : Unit) (h : b.toList.map UInt8.toNat = l), motive (.bytes b t) (.bytes b t l h)) (r : Rel w ad W v (.bytes l)) : motive v r := by
  obtain ⟨x, t, rfl, h⟩ := show ∃ b t, v = .bytes b t ∧ b.toList.map UInt8.toNat = l from r.inv; exact bytes x t () h
theorem Rel.biE {id : String} {motive : (v : Value) → Rel w ad W v (.bi id) → Prop} (bi : ∀ _ : Unit, motive (.builtin id) (.bi id)) (r : Rel w ad W v (.bi id)) : motive v r := by obtain rfl := show v = .builtin id from r.inv; exact bi ()
theorem Rel.tyE {n : String} {motive : (v : Value) → Rel w ad W v (.ty n) → Prop} (ty : ∀ _ : Unit, motive (.type n) (.ty n)) (r : Rel w ad W v (.ty n)) : motive v r := by obtain rfl := show v = .type n from r.inv; exact ty ()
theorem Rel.fnE {k : Nat} {motive : (v : Value) → Rel w ad W v (.fn k) → Prop} (fn : ∀ (_ : Unit) (a : Addr) (h : a = ad k), motive (.ref a) (.fn k a h)) (r : Rel w ad W v (.fn k)) : motive v r := by obtain rfl := show v = .ref (ad k) from r.inv; exact fn () _ rfl
theorem Rel.refE {a : Addr} {motive : (v : Value) → Rel w ad W v (.ref a) → Prop} (ref : ∀ _ : Unit, motive (.ref a) (.ref a)) (r : Rel w ad W v (.ref a)) : motive v r := by obtain rfl := show v = .ref a from r.inv; exact ref ()
theorem Rel.rngE {lo hi : Int} {motive : (v : Value) → Rel w ad W v (.rng lo hi) → Prop} (rng : ∀ (a : Addr) (_ _ : Unit) (t u z : Tok) (h : W a = some (rngObj lo hi t u z)), motive (.ref a) (.rng a lo hi t u z h)) (r : Rel w ad W v (.rng lo hi)) : motive v r := by
  obtain ⟨a, t, u, z, rfl, h⟩ := show ∃ a t u z, v = .ref a ∧ W a = some (rngObj lo hi t u z) from r.inv; exact rng a () () t u z h
theorem Rel.instE {d : Addr} {motive : (v : Value) → Rel w ad W v (.inst d) → Prop} (inst : ∀ (x : Addr) (_ : Unit) (h : W x = some (curObj (ad 7) d)), motive (.ref x) (.inst x d h)) (r : Rel w ad W v (.inst d)) : motive v r := by
  obtain ⟨x, rfl, h⟩ := show ∃ x, v = .ref x ∧ W x = some (curObj (ad 7) d) from r.inv; exact inst x () h
theorem Rel.tupE {l : List V} {motive : (v : Value) → Rel w ad W v (.tup l) → Prop} (tup : ∀ (a : Addr) (vs : List Value) (n : Nat) (_ : Unit) (h : W a = some (tupObj vs n)) (r : RelL w ad W vs l), motive (.ref a) (.tup a vs n l h r)) (r : Rel w ad W v (.tup l)) : motive v r := by
  obtain ⟨a, vs, n, rfl, h, k⟩ := show ∃ a vs n, v = .ref a ∧ W a = some (tupObj vs n) ∧ RelL w ad W vs l from r.inv; exact tup a vs n () h k
theorem Rel.listE {l : List V} {motive : (v : Value) → Rel w ad W v (.list l) → Prop} (list : ∀ (a : Addr) (vs : List Value) (n : Nat) (_ : Unit) (h : W a = some (listObj vs n)) (r : RelL w ad W vs l), motive (.ref a) (.list a vs n l h r)) (r : Rel w ad W v (.list l)) : motive v r := by
  obtain ⟨a, vs, n, rfl, h, k⟩ := show ∃ a vs n, v = .ref a ∧ W a = some (listObj vs n) ∧ RelL w ad W vs l from r.inv; exact list a vs n () h k
theorem Rel.sdE {l : List (List Nat × V)} {motive : (v : Value) → Rel w ad W v (.sd l) → Prop} (sd : ∀ (a : Addr) (es : List DictEntry) (n : Nat) (_ : Unit) (ne : a ≠ sysModules) (h : W a = some (dictObj es n)) (r : RelS w ad W es l), motive (.ref a) (.sd a es n l ne h r)) (r : Rel w ad W v (.sd l)) : motive v r := by
  obtain ⟨a, es, n, rfl, ne, h, k⟩ := show ∃ a es n, v = .ref a ∧ a ≠ sysModules ∧ W a = some (dictObj es n) ∧ RelS w ad W es l from r.inv; exact sd a es n () ne h k
theorem Rel.iddE {l : List (Int × V)} {motive : (v : Value) → Rel w ad W v (.idd l) → Prop} (idd : ∀ (a : Addr) (es : List DictEntry) (n : Nat) (_ : Unit) (ne : a ≠ sysModules) (h : W a = some (dictObj es n)) (r : RelI w ad W es l), motive (.ref a) (.idd a es n l ne h r)) (r : Rel w ad W v (.idd l)) : motive v r := by
  obtain ⟨a, es, n, rfl, ne, h, k⟩ := show ∃ a es n, v = .ref a ∧ a ≠ sysModules ∧ W a = some (dictObj es n) ∧ RelI w ad W es l from r.inv; exact idd a es n () ne h k
theorem RelL.nilE {us : List Value} {motive : (us : List Value) → RelL w ad W us [] → Prop} (nil : motive [] .nil) (r : RelL w ad W us []) : motive us r := by cases r; exact nil
theorem RelL.consE {us : List Value} {x : V} {l : List V} {motive : (us : List Value) → RelL w ad W us (x :: l) → Prop} (cons : ∀ (v : Value) (_ : Unit) (vs : List Value) (_ : Unit) (h : Rel w ad W v x) (r : RelL w ad W vs l), motive (v :: vs) (.cons v x vs l h r)) (r : RelL w ad W us (x :: l)) : motive us r := by cases r; exact cons _ () _ () (by assumption) (by assumption)
end

/-- what a thing that may turn holds -/
inductive O where
  | list (l : List V) | sd (l : List (List Nat × V)) | idd (l : List (Int × V))
  | frame (l : List (Str × Option V)) | var (v : Option V) | iter (l : List V)

section
variable (w : World) (ad : Nat → Addr)

inductive ORel (W : Wd) : Obj → O → Prop
  | list (vs : List Value) (n : Nat) (l : List V) (r : RelL w ad W vs l) : ORel W (listObj vs n) (.list l)
  | sd (es : List DictEntry) (n : Nat) (l : List (List Nat × V)) (r : RelS w ad W es l) : ORel W (dictObj es n) (.sd l)
  | idd (es : List DictEntry) (n : Nat) (l : List (Int × V)) (r : RelI w ad W es l) : ORel W (dictObj es n) (.idd l)
  | frame (o : Obj) (es : Array DictEntry) (ep : Nat) (l : List (Str × Option V)) (hd : o.data = .dict es ep) (hk : StrKeys es) (hn : (l.map (·.1)).Nodup)
      (h : ∀ x v, (x, some v) ∈ l → ∃ u, nsFind es x = some u ∧ Rel w ad W u v) : ORel W o (.frame l)
  | var (o : Obj) (u : Value) (v : V) (hd : o.data = .cell (some u)) (h : Rel w ad W u v) : ORel W o (.var (some v))
  | var0 (o : Obj) (u : Option Value) (hd : o.data = .cell u) : ORel W o (.var none)

theorem ORel.mono {W W' : Wd} (m : Le W W') {o : Obj} {x : O} (h : ORel w ad W o x) : ORel w ad W' o x := by
  cases h with
  | list vs n l r => exact .list vs n l (r.mono w ad m)
  | sd es n l r => exact .sd es n l (r.mono w ad m)
  | idd es n l r => exact .idd es n l (r.mono w ad m)
  | frame o es ep l hd hk hn h => exact .frame o es ep l hd hk hn fun x v hx => let ⟨u, a, b⟩ := h x v hx; ⟨u, a, b.mono w ad m⟩
  | var o u v hd h => exact .var o u v hd (h.mono w ad m)
  | var0 o u hd => exact .var0 o u hd

abbrev Cs := List (Addr × O)

/-- the state s is as the words say: W stays for good, F is not ours, cs is ours -/
structure Mdl (s₀ : Shared) (W F : Wd) (cs : Cs) (s : Shared) : Prop where
  rest : ∃ h t, s = { s₀ with heap := h, toks := t }
  hw : ∀ b o, W b = some o → s.heap.get? b = some o
  hf : ∀ b o, F b = some o → s.heap.get? b = some o
  base : ∀ b o, s₀.heap.get? b = some o → W b = some o
  wf : ∀ b o, F b = some o → W b = none
  own : ∀ p ∈ cs, ∃ o, s.heap.get? p.1 = some o ∧ ORel w ad W o p.2 ∧ W p.1 = none ∧ F p.1 = none
  nodup : (cs.map (·.1)).Nodup

end

noncomputable def Wd.put (W : Wd) (a : Addr) (o : Obj) : Wd := fun b => if b = a then some o else W b
theorem Le.put {W : Wd} {a : Addr} {o : Obj} (h : W a = none) : Le W (W.put a o) := by
  intro b o' e
  unfold Wd.put
  by_cases q : b = a
  · subst q; rw [h] at e; cases e
  · rw [if_neg q]; exact e

section
variable {w : World} {ad : Nat → Addr} {s₀ s : Shared} {W F : Wd} {cs cs' : Cs}

theorem Mdl.toks (M : Mdl w ad s₀ W F cs s) (n : Nat) : Mdl w ad s₀ W F cs { s with toks := n } := by
  obtain ⟨⟨h, t, rfl⟩, a, b, c, d, e, f⟩ := M
  exact ⟨⟨h, n, rfl⟩, a, b, c, d, e, f⟩

theorem Mdl.fresh (M : Mdl w ad s₀ W F cs s) : W s.heap.objs.size = none ∧ F s.heap.objs.size = none ∧ ∀ p ∈ cs, p.1 ≠ s.heap.objs.size := by
  have no : ∀ o, s.heap.get? s.heap.objs.size ≠ some o := fun o e => absurd (Heap.lt_size e) (Nat.lt_irrefl _)
  refine ⟨?_, ?_, fun p hp e => ?_⟩
  · cases h : W s.heap.objs.size with
    | none => rfl
    | some o => exact absurd (M.hw _ _ h) (no o)
  · cases h : F s.heap.objs.size with
    | none => rfl
    | some o => exact absurd (M.hf _ _ h) (no o)
  · obtain ⟨o, h, _⟩ := M.own p hp
    rw [e] at h; exact no o h

/-- a new thing that stays as it is -/
theorem Mdl.pushW (M : Mdl w ad s₀ W F cs s) (o : Obj) (ho : o.isFreed = false := by rfl) :
    Mdl w ad s₀ (W.put s.heap.objs.size o) F cs { s with heap := s.heap.push o } ∧ Le W (W.put s.heap.objs.size o) := by
  obtain ⟨f1, f2, f3⟩ := M.fresh
  refine ⟨⟨?_, ?_, ?_, ?_, ?_, ?_, M.nodup⟩, Le.put f1⟩
  · obtain ⟨h, t, rfl⟩ := M.rest; exact ⟨_, t, rfl⟩
  · intro b o' e
    unfold Wd.put at e
    by_cases q : b = s.heap.objs.size
    · rw [if_pos q] at e; cases e; rw [q]; exact Heap.get?_push_size _ ho
    · rw [if_neg q] at e; exact Heap.get?_push_of_some _ (M.hw _ _ e)
  · exact fun b o' e => Heap.get?_push_of_some _ (M.hf _ _ e)
  · exact fun b o' e => Le.put f1 _ _ (M.base _ _ e)
  · intro b o' e
    unfold Wd.put
    by_cases q : b = s.heap.objs.size
    · rw [q, f2] at e; cases e
    · rw [if_neg q]; exact M.wf _ _ e
  · intro p hp
    obtain ⟨o', a, b, c, d⟩ := M.own p hp
    refine ⟨o', Heap.get?_push_of_some _ a, b.mono w ad (Le.put f1), ?_, d⟩
    unfold Wd.put; rw [if_neg (f3 p hp)]; exact c

/-- a new thing that may turn -/
theorem Mdl.pushC (M : Mdl w ad s₀ W F cs s) (o : Obj) {x : O} (hx : ORel w ad W o x) (ho : o.isFreed = false := by rfl) :
    Mdl w ad s₀ W F ((s.heap.objs.size, x) :: cs) { s with heap := s.heap.push o } := by
  obtain ⟨f1, f2, f3⟩ := M.fresh
  refine ⟨?_, ?_, ?_, M.base, M.wf, ?_, ?_⟩
  · obtain ⟨h, t, rfl⟩ := M.rest; exact ⟨_, t, rfl⟩
  · exact fun b o' e => Heap.get?_push_of_some _ (M.hw _ _ e)
  · exact fun b o' e => Heap.get?_push_of_some _ (M.hf _ _ e)
  · intro p hp
    rcases List.mem_cons.mp hp with rfl | hp
    · exact ⟨o, Heap.get?_push_size _ ho, hx, f1, f2⟩
    · obtain ⟨o', a, b, c, d⟩ := M.own p hp
      exact ⟨o', Heap.get?_push_of_some _ a, b, c, d⟩
  · rw [List.map_cons, List.nodup_cons]
    refine ⟨fun h => ?_, M.nodup⟩
    obtain ⟨p, hp, e⟩ := List.mem_map.mp h
    exact f3 p hp e

/-- cs' is cs with what a holds turned from x to y -/
inductive Upd (a : Addr) (x y : O) : Cs → Cs → Prop
  | head (r : Cs) : Upd a x y ((a, x) :: r) ((a, y) :: r)
  | tail (p : Addr × O) {r r' : Cs} (h : Upd a x y r r') : Upd a x y (p :: r) (p :: r')

theorem Upd.mem {a : Addr} {x y : O} {cs cs' : Cs} (u : Upd a x y cs cs') : (a, x) ∈ cs := by
  induction u with
  | head r => exact List.mem_cons_self
  | tail p _ ih => exact List.mem_cons_of_mem _ ih
theorem Upd.addrs {a : Addr} {x y : O} {cs cs' : Cs} (u : Upd a x y cs cs') : cs'.map (·.1) = cs.map (·.1) := by
  induction u with
  | head r => rfl
  | tail p _ ih => simp only [List.map_cons, ih]
theorem Upd.back {a : Addr} {x y : O} {cs cs' : Cs} (u : Upd a x y cs cs') : (cs.map (·.1)).Nodup → ∀ p ∈ cs', p = (a, y) ∨ (p ∈ cs ∧ p.1 ≠ a) := by
  induction u with
  | head r =>
    intro hn p hp
    rw [List.map_cons, List.nodup_cons] at hn
    rcases List.mem_cons.mp hp with rfl | hp
    · exact .inl rfl
    · exact .inr ⟨List.mem_cons_of_mem _ hp, fun e => hn.1 (by show a ∈ _; rw [← e]; exact List.mem_map_of_mem (f := (·.1)) hp)⟩
  | tail q u ih =>
    intro hn p hp
    rw [List.map_cons, List.nodup_cons] at hn
    rcases List.mem_cons.mp hp with rfl | hp
    · refine .inr ⟨List.mem_cons_self, fun e => hn.1 ?_⟩
      rw [e]; exact List.mem_map_of_mem (f := (·.1)) u.mem
    · rcases ih hn.2 p hp with e | ⟨e, n⟩
      · exact .inl e
      · exact .inr ⟨List.mem_cons_of_mem _ e, n⟩

theorem Mdl.at {a : Addr} {x y : O} (M : Mdl w ad s₀ W F cs s) (u : Upd a x y cs cs') : ∃ o, s.heap.get? a = some o ∧ ORel w ad W o x :=
  let ⟨o, h1, h2, _⟩ := M.own _ u.mem
  ⟨o, h1, h2⟩

/-- one of ours turns -/
theorem Mdl.upd {a : Addr} {x y : O} (M : Mdl w ad s₀ W F cs s) (u : Upd a x y cs cs') {h' : Heap} {o' : Obj} (hs : Heap.SameBut a s.heap h') (ho : h'.get? a = some o') (hy : ORel w ad W o' y) (n : Nat) :
    Mdl w ad s₀ W F cs' { s with heap := h', toks := n } := by
  obtain ⟨_, _, _, hW, hF⟩ := M.own _ u.mem
  refine ⟨?_, ?_, ?_, M.base, M.wf, ?_, by rw [u.addrs]; exact M.nodup⟩
  · obtain ⟨h, t, rfl⟩ := M.rest; exact ⟨_, _, rfl⟩
  · intro b o e
    exact (hs.2 b fun q => by rw [q] at e; dsimp only at hW; rw [hW] at e; cases e).trans (M.hw _ _ e)
  · intro b o e
    exact (hs.2 b fun q => by rw [q] at e; dsimp only at hF; rw [hF] at e; cases e).trans (M.hf _ _ e)
  · intro p hp
    rcases u.back M.nodup p hp with rfl | ⟨hp, hne⟩
    · exact ⟨o', ho, hy, hW, hF⟩
    · obtain ⟨o, h1, h2, h3, h4⟩ := M.own p hp
      exact ⟨o, (hs.2 _ hne).trans h1, h2, h3, h4⟩

theorem Mdl.perm (M : Mdl w ad s₀ W F cs s) (p : cs.Perm cs') : Mdl w ad s₀ W F cs' s :=
  ⟨M.rest, M.hw, M.hf, M.base, M.wf, fun q hq => M.own q (p.mem_iff.mpr hq), (p.map (·.1)).nodup_iff.mp M.nodup⟩

theorem Mdl.drop (M : Mdl w ad s₀ W F cs s) (p : cs'.Sublist cs) : Mdl w ad s₀ W F cs' s :=
  ⟨M.rest, M.hw, M.hf, M.base, M.wf, fun q hq => M.own q (p.subset hq), (p.map (·.1)).nodup M.nodup⟩

/-- one of ours stays as it is from now on -/
theorem Mdl.freeze {a : Addr} {x : O} (M : Mdl w ad s₀ W F ((a, x) :: cs) s) : ∃ o, ORel w ad W o x ∧ s.heap.get? a = some o ∧ Mdl w ad s₀ (W.put a o) F cs s ∧ Le W (W.put a o) := by
  obtain ⟨o, h1, h2, h3, h4⟩ := M.own _ List.mem_cons_self
  have hn := M.nodup
  rw [List.map_cons, List.nodup_cons] at hn
  refine ⟨o, h2, h1, ⟨M.rest, ?_, M.hf, fun b o e => Le.put h3 _ _ (M.base _ _ e), ?_, ?_, hn.2⟩, Le.put h3⟩
  · intro b o' e
    unfold Wd.put at e
    by_cases q : b = a
    · rw [if_pos q] at e; cases e; rw [q]; exact h1
    · rw [if_neg q] at e; exact M.hw _ _ e
  · intro b o' e
    unfold Wd.put
    by_cases q : b = a
    · rw [q] at e; dsimp only at h4; rw [h4] at e; cases e
    · rw [if_neg q]; exact M.wf _ _ e
  · intro p hp
    obtain ⟨o', a1, a2, a3, a4⟩ := M.own p (List.mem_cons_of_mem _ hp)
    refine ⟨o', a1, a2.mono w ad (Le.put h3), ?_, a4⟩
    unfold Wd.put
    rw [if_neg fun (e : p.1 = a) => hn.1 (by show a ∈ _; rw [← e]; exact List.mem_map_of_mem (f := (·.1)) hp)]
    exact a3

/-- another's thing I may have turned -/
theorem Mdl.step (M : Mdl w ad s₀ W F cs s) {I : Addr} (hW : W I = none) (hF : F I = none) (hc : ∀ p ∈ cs, p.1 ≠ I) {h' : Heap} (k : ∀ b o, b ≠ I → s.heap.get? b = some o → h'.get? b = some o) (n : Nat) :
    Mdl w ad s₀ W F cs { s with heap := h', toks := n } := by
  refine ⟨?_, ?_, ?_, M.base, M.wf, ?_, M.nodup⟩
  · obtain ⟨h, t, rfl⟩ := M.rest; exact ⟨_, _, rfl⟩
  · exact fun b o e => k _ _ (fun q => by rw [q, hW] at e; cases e) (M.hw _ _ e)
  · exact fun b o e => k _ _ (fun q => by rw [q, hF] at e; cases e) (M.hf _ _ e)
  · intro p hp
    obtain ⟨o, h1, h2⟩ := M.own p hp
    exact ⟨o, k _ _ (hc p hp) h1, h2⟩

/-- what stands in the heap and is nobody's may be another's -/
theorem Mdl.lend (M : Mdl w ad s₀ W F cs s) {I : Addr} {o : Obj} (hW : W I = none) (hc : ∀ p ∈ cs, p.1 ≠ I) (ho : s.heap.get? I = some o) : Mdl w ad s₀ W (F.put I o) cs s := by
  refine ⟨M.rest, M.hw, ?_, M.base, ?_, ?_, M.nodup⟩
  · intro b o' e
    unfold Wd.put at e
    by_cases q : b = I
    · rw [if_pos q] at e; cases e; rw [q]; exact ho
    · rw [if_neg q] at e; exact M.hf _ _ e
  · intro b o' e
    unfold Wd.put at e
    by_cases q : b = I
    · rw [q]; exact hW
    · rw [if_neg q] at e; exact M.wf _ _ e
  · intro p hp
    obtain ⟨o', h1, h2, h3, h4⟩ := M.own p hp
    refine ⟨o', h1, h2, h3, ?_⟩
    unfold Wd.put; rw [if_neg (hc p hp)]; exact h4

theorem Mdl.unlend {F' : Wd} (M : Mdl w ad s₀ W F' cs s) (k : ∀ b o, F b = some o → F' b = some o) : Mdl w ad s₀ W F cs s := by
  refine ⟨M.rest, M.hw, fun b o e => M.hf _ _ (k _ _ e), M.base, fun b o e => M.wf _ _ (k _ _ e), ?_, M.nodup⟩
  intro p hp
  obtain ⟨o', h1, h2, h3, h4⟩ := M.own p hp
  refine ⟨o', h1, h2, h3, ?_⟩
  cases q : F p.1 with
  | none => rfl
  | some o => rw [k _ _ q] at h4; cases h4
end

end U

/-! ## U2 -/
namespace U
open PySem PyProof.Rows PySem.Calls

noncomputable def stTop (k : Nat) : Stmt := (PySem.Challenge.pw_or0067_01.main.body[k]?).getD (.Pass ⟨0, 0, 0, 0⟩)
noncomputable def clsBody : List Stmt := match stTop 7 with | .ClassDef _ _ _ b .. => b | _ => []
/-- from 100 on: the defs in the class Cursor -/
noncomputable def stAt (k : Nat) : Stmt := if k < 100 then stTop k else (clsBody[k - 100]?).getD (.Pass ⟨0, 0, 0, 0⟩)
noncomputable def fnName (k : Nat) : Str := match stAt k with | .FunctionDef n _ _ _ _ _ _ _ _ _ => n | _ => Str.empty
noncomputable def fnPar (k : Nat) : Arguments := match stAt k with | .FunctionDef _ a _ _ _ _ _ _ _ _ => a | _ => ⟨[], [], none, [], [], none, []⟩
noncomputable def fnBody (k : Nat) : List Stmt := match stAt k with | .FunctionDef _ _ b _ _ _ _ _ _ _ => b | _ => []
noncomputable def fnScope (k : Nat) : Scope := match stAt k with | .FunctionDef _ _ _ _ _ _ s _ _ _ => s | _ => ⟨.function, [], false, false, []⟩

/-- the names of the text's top that the law reads -/
noncomputable def bs (l : List UInt8) : List Nat := l.map UInt8.toNat
noncomputable def ss (x : String) : List Nat := (Str.ofString x).cps.toList
noncomputable def fnIx : List Nat := [8, 9, 10, 17, 18, 19, 20, 21, 22, 23, 24, 25, 26, 27, 28, 29, 33, 34, 35, 37, 52, 53, 54, 55, 56, 57, 58, 59, 60, 61, 62, 63, 64, 65, 66, 67, 68, 69, 70, 71, 72, 73, 74, 76, 77, 78, 79, 80]

noncomputable def fnQual (k : Nat) : Str := if k < 100 then fnName k else Str.ofString "Cursor." ++ fnName k
noncomputable def fdK (k : Nat) (pm code doc : Value) : FuncData := { docDef (fnName k) (fnPar k) (fnBody k) (fnScope k) pm code doc with qualname := fnQual k }
/-- the defs without defaults, the methods too -/
noncomputable def fnIx2 : List Nat := fnIx ++ [101, 103]
abbrev strV (x : String) : V := .str (ss x)
noncomputable def glob0 : List (Str × V) := (fnIx.map fun k => (fnName k, V.fn k)) ++ [(Str.ofString "Cursor", V.fn 7),
  (Str.ofString "ASCII", strV "us-ascii"), (Str.ofString "LATIN", strV "iso-8859-1"), (Str.ofString "UTF8", strV "utf-8"), (Str.ofString "CHARSETS", .tup [strV "us-ascii", strV "iso-8859-1", strV "utf-8"]),
  (Str.ofString "NEVER_ESCAPED", .tup [.int 0, .int 10, .int 13]), (Str.ofString "WHITE", .tup [.int 9, .int 10, .int 13, .int 32]),
  (Str.ofString "SEMICOLON", .int 59), (Str.ofString "EQUALS", .int 61), (Str.ofString "QUOTE", .int 34), (Str.ofString "BRACKET", .int 40), (Str.ofString "PER_CENT", .int 37),
  (Str.ofString "BARRED", .bytes [40, 41, 60, 62, 64, 44, 59, 58, 92, 34, 47, 91, 93, 63, 61]), (Str.ofString "BARRED_IN_NAMES", .bytes [42, 39, 37]),
  (Str.ofString "HEX_FIGURES", .bytes [48, 49, 50, 51, 52, 53, 54, 55, 56, 57, 65, 66, 67, 68, 69, 70]),
  (Str.ofString "WIDTH", .int 78), (Str.ofString "MOST_NAME", .int 40), (Str.ofString "MOST_PARTS", .int 1000), (Str.ofString "ROOM", .int 66)]
noncomputable def noGlob0 : List Str := [Str.ofString "len", Str.ofString "bytes", Str.ofString "chr", Str.ofString "ord", Str.ofString "range", Str.ofString "str", Str.ofString "int", Str.ofString "abs", Str.ofString "max", Str.ofString "list"]

set_option genInjectivity false in
set_option genSizeOf false in
structure Cx where
  prog : Program
  w : World
  ad : Nat → Addr
  s₀ : Shared
  mg : Str → Option Value
  mb : Str → Option Value
  g : s₀.heap.Ns mainGlobals mg
  b : s₀.heap.Ns builtinsNs mb
  nolimit : s₀.heap.NoLimit
  nodigits : ∃ mc, s₀.heap.Ns cStatics mc ∧ mc "sys.int_max_str_digits" = none
  isGlob : ∀ x v, (x, v) ∈ glob0 → ∃ u, mg x = some u ∧ Rel w ad s₀.heap.get? u v
  isNoGlob : ∀ x ∈ noGlob0, mg x = none
  builtins : ∀ x : Str, x ≠ "__name__" → mb x = bootBuiltins x
  fns : ∀ k ∈ fnIx2, ∃ o pm code doc, s₀.heap.get? (ad k) = some o ∧ o.data = .func (fdK k pm code doc) ∧ s₀.heap.CodeRec code (fnQual k)
  mfns : ∀ k ∈ [100, 102], ∃ o pm code doc T items n, s₀.heap.get? (ad k) = some o ∧ o.data = .func { fdK k pm code doc with defaults := .ref T } ∧ s₀.heap.CodeRec code (fnQual k) ∧
    s₀.heap.get? T = some (tupObj items n) ∧ RelL w ad s₀.heap.get? items (if k = 100 then [.int 0, .int (-1)] else [.int 0])
  K : PySem.W.Frag
  kin : K.In s₀.heap
  khas : (PySem.W.hasDictIn K (ad 7)) = true
  kmakes : PySem.W.makesIn K (ad 7) = true
  kkeep : PySem.W.keepIn K (.ref (ad 7)) = true
  kover : PySem.W.plainOver K (ad 7) = true
  kga : PySem.W.findIn K (.ref (ad 7)) "__getattribute__" = some (some (.builtin "object.__getattribute__"))
  kgb : PySem.W.findIn K (.ref (ad 7)) "__getattr__" = some none
  ksa : PySem.W.findIn K (.ref (ad 7)) "__setattr__" = some (some (.builtin "object.__setattr__"))
  kattr : ∀ x ∈ [Str.ofString "data", Str.ofString "at", Str.ofString "end"], PySem.W.findIn K (.ref (ad 7)) x = some none
  kmeth : ∀ k ∈ [100, 101, 102, 103], PySem.W.findIn K (.ref (ad 7)) (fnName k) = some (some (.ref (ad k))) ∧ PySem.W.typeIn K (.ref (ad k)) = some (.type "function")

/-- room: frames and C units left; nothing handled -/
structure Ok (A : Around) (n : Nat) : Prop where
  handled : A.handled = none
  depth : A.depth + n < 900
  units : A.units + 20 * n < 9000
theorem Ok.le {A : Around} {n m : Nat} (h : Ok A n) (k : m ≤ n) : Ok A m := ⟨h.handled, by have := h.depth; lia, by have := h.units; lia⟩
theorem Ok.deeper {A : Around} {n m : Nat} (h : Ok A n) (k : m + 1 ≤ n) (e : Env) : Ok (A.deeper e) m :=
  ⟨h.handled, by have := h.depth; show A.depth + 1 + m < 900; lia, by have := h.units; show A.units + 3 + 20 * m < 9000; lia⟩
theorem Ok.room {A : Around} {n : Nat} (h : Ok A n) : A.depth < recursionLimit := by have := h.depth; unfold recursionLimit; lia
theorem Ok.unit {A : Around} {n : Nat} (h : Ok A n) : A.units < cLine := by have := h.units; unfold cLine; lia

section
variable (c : Cx) {α β : Type}

abbrev RV (W : Wd) (v : Value) (x : V) : Prop := Rel c.w c.ad W v x
abbrev RL (W : Wd) (v : List Value) (x : List V) : Prop := RelL c.w c.ad W v x
abbrev MdlC (W F : Wd) (cs : Cs) (s : Shared) : Prop := Mdl c.w c.ad c.s₀ W F cs s
abbrev RB (_ : Wd) (a b : Bool) : Prop := a = b
abbrev RU (_ : Wd) (_ _ : Unit) : Prop := True
inductive VF where
  | next | brk | cont | ret (v : V)
inductive RF (W : Wd) : Flow → VF → Prop
  | next : RF W .next .next
  | brk : RF W .brk .brk
  | cont : RF W .cont .cont
  | ret (v : Value) (x : V) (h : RV c W v x) : RF W (.ret v) (.ret x)

/-- what holds behind -/
inductive Post (W F : Wd) (R : Wd → α → β → Prop) (Q : β → Cs → Prop) (r : α) (s : Shared) : Prop
  | mk (W' : Wd) (z : β) (cs : Cs) (l : Le W W') (h : R W' r z) (m : MdlC c W' F cs s) (q : Q z cs)
noncomputable def NoE : Value → Shared → Prop := fun _ _ => False

noncomputable def G (A : Around) (cs : Cs) (t : Sem α) (R : Wd → α → β → Prop) (Q : β → Cs → Prop) : Prop :=
  ∀ W F s, MdlC c W F cs s → wpAny (model c.prog c.w) A t (Post c W F R Q) NoE s
abbrev GE (A : Around) (cs : Cs) (t : Sem Value) (Q : V → Cs → Prop) : Prop := G c A cs t (RV c) Q
abbrev GS (A : Around) (cs : Cs) (t : Sem Flow) (Q : VF → Cs → Prop) : Prop := G c A cs t (RF c) Q
abbrev GB (A : Around) (cs : Cs) (t : Sem Bool) (Q : Bool → Cs → Prop) : Prop := G c A cs t RB Q
abbrev GU (A : Around) (cs : Cs) (t : Sem Unit) (Q : Unit → Cs → Prop) : Prop := G c A cs t RU Q
abbrev GL (A : Around) (cs : Cs) (t : Sem (List Value)) (Q : List V → Cs → Prop) : Prop := G c A cs t (RL c) Q

noncomputable def Op1 (A : Around) (cs : Cs) (t : Value → Sem α) (x : V) (R : Wd → α → β → Prop) (Q : β → Cs → Prop) : Prop :=
  ∀ W F s v, MdlC c W F cs s → RV c W v x → wpAny (model c.prog c.w) A (t v) (Post c W F R Q) NoE s
noncomputable def Op2 (A : Around) (cs : Cs) (t : Value → Value → Sem α) (x y : V) (R : Wd → α → β → Prop) (Q : β → Cs → Prop) : Prop :=
  ∀ W F s v u, MdlC c W F cs s → RV c W v x → RV c W u y → wpAny (model c.prog c.w) A (t v u) (Post c W F R Q) NoE s
noncomputable def OpL (A : Around) (cs : Cs) (t : List Value → Sem α) (x : List V) (R : Wd → α → β → Prop) (Q : β → Cs → Prop) : Prop :=
  ∀ W F s v, MdlC c W F cs s → RL c W v x → wpAny (model c.prog c.w) A (t v) (Post c W F R Q) NoE s
noncomputable def Op1L (A : Around) (cs : Cs) (t : Value → List Value → Sem α) (f : V) (x : List V) (R : Wd → α → β → Prop) (Q : β → Cs → Prop) : Prop :=
  ∀ W F s g v, MdlC c W F cs s → RV c W g f → RL c W v x → wpAny (model c.prog c.w) A (t g v) (Post c W F R Q) NoE s
end

section
variable {c : Cx} {α β γ δ : Type} {A : Around} {cs : Cs} {W F : Wd} {s : Shared}

theorem RV.mono {W W' : Wd} (m : Le W W') {v : Value} {x : V} (h : RV c W v x) : RV c W' v x := Rel.mono c.w c.ad m h
theorem RL.mono {W W' : Wd} (m : Le W W') {v : List Value} {x : List V} (h : RL c W v x) : RL c W' v x := RelL.mono c.w c.ad m h

theorem Post.back {W W' F : Wd} (m : Le W W') {R : Wd → α → β → Prop} {Q : β → Cs → Prop} {r : α} {s : Shared} (h : Post c W' F R Q r s) : Post c W F R Q r s :=
  let ⟨W2, z, cs, a, b, d, e⟩ := h; ⟨W2, z, cs, m.trans a, b, d, e⟩

theorem wpNoE {M : Model} {t : Sem α} {Q Q' : α → Shared → Prop} (h : wpAny M A t Q NoE s) (k : ∀ a s, Q a s → Q' a s) {E : Value → Shared → Prop} : wpAny M A t Q' E s :=
  wpAny_mono h k fun _ _ f => f.elim

/-- behind one part, the next -/
theorem go {M : Model} {t : Sem α} {R : Wd → α → β → Prop} {Q : β → Cs → Prop} {X : α → Shared → Prop} (h : wpAny M A t (Post c W F R Q) NoE s)
    (k : ∀ r s' W' z cs', Le W W' → R W' r z → MdlC c W' F cs' s' → Q z cs' → X r s') {E : Value → Shared → Prop} : wpAny M A t X E s :=
  wpNoE h fun r s' ⟨W', z, cs', a, b, m, q⟩ => k r s' W' z cs' a b m q

theorem G.mono {t : Sem α} {R : Wd → α → β → Prop} {Q Q' : β → Cs → Prop} (h : G c A cs t R Q) (k : ∀ z cs', Q z cs' → Q' z cs') : G c A cs t R Q' :=
  fun W F s M => go (h W F s M) fun r s' W' z cs' a b m q => ⟨W', z, cs', a, b, m, k _ _ q⟩

theorem here {R : Wd → α → β → Prop} {Q : β → Cs → Prop} {r : α} {z : β} (hR : R W r z) (M : MdlC c W F cs s) (q : Q z cs) : Post c W F R Q r s := ⟨W, z, cs, Le.refl W, hR, M, q⟩

/-! ### literals -/
theorem E_int {i : Int} {k : Nat} {pos : Pos} {env : Env} {Q : V → Cs → Prop} (q : Q (.int i) cs) : GE c A cs (eval (.Constant (.int i) k pos) env) Q :=
  fun _ _ _ M => wpAny_Constant_int (here (.int _ _) (M.toks _) q)
theorem E_str {x : Str} {k : Nat} {pos : Pos} {env : Env} {Q : V → Cs → Prop} (q : Q (.str x.cps.toList) cs) : GE c A cs (eval (.Constant (.str x) k pos) env) Q :=
  fun _ _ _ M => Constant_str (here (.str _ _ _ rfl) (M.toks _) q)
theorem E_bytes {x : List UInt8} {k : Nat} {pos : Pos} {env : Env} {Q : V → Cs → Prop} (q : Q (.bytes (bs x)) cs) : GE c A cs (eval (.Constant (.bytes x) k pos) env) Q :=
  fun W F s M => by
    intro Γ p _
    exact here (Q := Q) (R := RV c) (.bytes _ _ _ (by simp [bs])) (M.toks _) q
theorem E_bool {b : Bool} {k : Nat} {pos : Pos} {env : Env} {Q : V → Cs → Prop} (q : Q (.bool b) cs) : GE c A cs (eval (.Constant (.bool b) k pos) env) Q :=
  fun W F s M => by intro Γ p _; exact here (Q := Q) (R := RV c) (.bool b) M q
theorem E_none {k : Nat} {pos : Pos} {env : Env} {Q : V → Cs → Prop} (q : Q .none cs) : GE c A cs (eval (.Constant .none k pos) env) Q :=
  fun W F s M => by intro Γ p _; exact here (Q := Q) (R := RV c) .none M q

/-! ### names -/
inductive Loc (x : Str) (v : V) : List (Str × Option V) → Prop
  | head (r : List (Str × Option V)) : Loc x v ((x, some v) :: r)
  | tail (p : Str × Option V) {r : List (Str × Option V)} (h : Loc x v r) : Loc x v (p :: r)
inductive At (a : Addr) (o : O) : Cs → Prop
  | head (r : Cs) : At a o ((a, o) :: r)
  | tail (p : Addr × O) {r : Cs} (h : At a o r) : At a o (p :: r)
inductive LocPut (x : Str) (v : V) : List (Str × Option V) → List (Str × Option V) → Prop
  | head (o : Option V) (r : List (Str × Option V)) : LocPut x v ((x, o) :: r) ((x, some v) :: r)
  | tail (p : Str × Option V) {r r' : List (Str × Option V)} (h : LocPut x v r r') : LocPut x v (p :: r) (p :: r')

theorem Loc.mem {x : Str} {v : V} {l : List (Str × Option V)} (h : Loc x v l) : (x, some v) ∈ l := by
  induction h with
  | head r => exact List.mem_cons_self
  | tail p _ ih => exact List.mem_cons_of_mem _ ih
theorem At.mem {a : Addr} {o : O} {l : Cs} (h : At a o l) : (a, o) ∈ l := by
  induction h with
  | head r => exact List.mem_cons_self
  | tail p _ ih => exact List.mem_cons_of_mem _ ih
theorem LocPut.names {x : Str} {v : V} {l l' : List (Str × Option V)} (h : LocPut x v l l') : l'.map (·.1) = l.map (·.1) := by
  induction h with
  | head o r => rfl
  | tail p _ ih => simp only [List.map_cons, ih]
theorem LocPut.has {x : Str} {v : V} {l l' : List (Str × Option V)} (h : LocPut x v l l') : x ∈ l.map (·.1) := by
  induction h with
  | head o r => simp
  | tail p _ ih => rw [List.map_cons]; exact List.mem_cons_of_mem _ ih
theorem LocPut.back {x : Str} {v : V} {l l' : List (Str × Option V)} (h : LocPut x v l l') : (l.map (·.1)).Nodup → ∀ p ∈ l', p = (x, some v) ∨ (p ∈ l ∧ p.1 ≠ x) := by
  induction h with
  | head o r =>
    intro hn p hp
    rw [List.map_cons, List.nodup_cons] at hn
    rcases List.mem_cons.mp hp with rfl | hp
    · exact .inl rfl
    · exact .inr ⟨List.mem_cons_of_mem _ hp, fun e => hn.1 (by show x ∈ _; rw [← e]; exact List.mem_map_of_mem (f := (·.1)) hp)⟩
  | tail q h ih =>
    intro hn p hp
    rw [List.map_cons, List.nodup_cons] at hn
    rcases List.mem_cons.mp hp with rfl | hp
    · exact .inr ⟨List.mem_cons_self, fun e => hn.1 (by rw [e]; exact h.has)⟩
    · rcases ih hn.2 p hp with e | ⟨e, n⟩
      · exact .inl e
      · exact .inr ⟨List.mem_cons_of_mem _ e, n⟩

theorem frame_ns {W : Wd} {L : Addr} {loc : List (Str × Option V)} {h : Heap} {o : Obj} (ho : h.get? L = some o) (hr : ORel c.w c.ad W o (.frame loc)) :
    ∃ m, h.Ns L m ∧ (loc.map (·.1)).Nodup ∧ ∀ x v, (x, some v) ∈ loc → ∃ u, m x = some u ∧ RV c W u v := by
  cases hr with
  | frame _ es ep _ hd hk hn hh => exact ⟨fun x => nsFind es x, ⟨o, es, ep, ho, hd, hk, fun _ => rfl⟩, hn, hh⟩

theorem E_local {x : Str} {pos : Pos} {env : Env} {v : V} {loc : List (Str × Option V)} {Q : V → Cs → Prop} (a : At env.locals (.frame loc) cs) (l : Loc x v loc) (q : Q v cs)
    (hk : env.scope.kind = .function := by kernel_rfl!) (hx : env.kindOf x = some .local := by kernel_rfl!) (hd : (x == ("__debug__" : Str)) = false := by decide +kernel) :
    GE c A cs (eval (.Name x pos) env) Q := by
  intro W F s M
  obtain ⟨o, ho, hr, _⟩ := M.own _ a.mem
  obtain ⟨m, hns, _, hm⟩ := frame_ns ho hr
  obtain ⟨u, hu, ru⟩ := hm _ _ l.mem
  exact wpAny_Name (wpAny_loadName_local hk hx hns hu (here ru M q)) hd

theorem E_cell {x : Str} {pos : Pos} {env : Env} {v : V} {ca : Addr} {Q : V → Cs → Prop} (hx : env.kindOf x = some .cell) (hc : env.cells.lookup x = some ca) (a : At ca (.var (some v)) cs) (q : Q v cs)
    (hk : env.scope.kind = .function := by kernel_rfl!) (hd : (x == ("__debug__" : Str)) = false := by decide +kernel) :
    GE c A cs (eval (.Name x pos) env) Q := by
  intro W F s M
  obtain ⟨o, ho, hr, _⟩ := M.own _ a.mem
  cases hr with
  | var _ u _ hdat ru => exact wpAny_Name (wpAny_loadName_cell hk hx hc ⟨o, ho, hdat⟩ (here ru M q)) hd
theorem Mdl.ns {w : World} {ad : Nat → Addr} {s₀ s : Shared} {W F : Wd} {cs : Cs} (M : Mdl w ad s₀ W F cs s) {a : Addr} {m : Str → Option Value} (h : s₀.heap.Ns a m) : s.heap.Ns a m :=
  h.keeps fun b o e => M.hw _ _ (M.base _ _ e)
theorem baseW {W F : Wd} {cs : Cs} {s : Shared} (M : MdlC c W F cs s) : Le c.s₀.heap.get? W := M.base

inductive GMem (x : Str) (v : V) : List (Str × V) → Prop
  | head (r : List (Str × V)) : GMem x v ((x, v) :: r)
  | tail (p : Str × V) {r : List (Str × V)} (h : GMem x v r) : GMem x v (p :: r)
theorem E_global {x : Str} {pos : Pos} {env : Env} {v : V} {Q : V → Cs → Prop} (hv : (x, v) ∈ glob0) (q : Q v cs)
    (hx : env.kindOf x = some .globalImplicit := by kernel_rfl!) (hk : env.scope.kind = .function := by kernel_rfl!) (hg : env.globals = mainGlobals := by kernel_rfl!) (hd : (x == ("__debug__" : Str)) = false := by decide +kernel) :
    GE c A cs (eval (.Name x pos) env) Q := by
  intro W F s M
  obtain ⟨u, hu, ru⟩ := c.isGlob _ _ hv
  exact Name_function_global hk hx (loadGlobal_global (by rw [hg]; exact M.ns c.g) hu (here (ru.mono c.w c.ad (baseW M)) M q)) hd

theorem E_builtin {x : Str} {pos : Pos} {env : Env} {u : Value} {v : V} {Q : V → Cs → Prop} (hv : bootBuiltins x = some u) (hn : x ∈ noGlob0) (r : ∀ W, RV c W u v) (q : Q v cs)
    (hx : env.kindOf x = some .globalImplicit := by kernel_rfl!) (hk : env.scope.kind = .function := by kernel_rfl!) (hg : env.globals = mainGlobals := by kernel_rfl!) (hb : env.builtins = builtinsNs := by kernel_rfl!)
    (hd : (x == ("__debug__" : Str)) = false := by decide +kernel) (hnm : x ≠ "__name__" := by decide +kernel) :
    GE c A cs (eval (.Name x pos) env) Q := by
  intro W F s M
  exact Name_function_global hk hx (loadGlobal_builtin (by rw [hg]; exact M.ns c.g) (c.isNoGlob _ hn) (by rw [hb]; exact M.ns c.b) ((c.builtins x hnm).trans hv) (here (r W) M q)) hd

theorem store {x : Str} {env : Env} {v : V} {u : Value} {cs cs' : Cs} {loc loc' : List (Str × Option V)} {Q : Unit → Cs → Prop}
    (M : MdlC c W F cs s) (ru : RV c W u v) (a : Upd env.locals (.frame loc) (.frame loc') cs cs') (l : LocPut x v loc loc') (q : Q () cs')
    (hx : env.kindOf x = some .local) (hk : env.scope.kind = .function) :
    wpAny (model c.prog c.w) A (storeName env x u) (Post c W F RU Q) NoE s := by
  obtain ⟨o, ho, hr⟩ := M.at a
  obtain ⟨m, hns, hnd, hm⟩ := frame_ns ho hr
  refine wpAny_storeName_local hx hns (fun h' hn hs => ?_) (by rw [hk]; rfl)
  obtain ⟨o', es, ep, ho', hd', hk', hf'⟩ := hn
  refine here trivial (M.upd a hs ho' (.frame o' es ep loc' hd' hk' (by rw [l.names]; exact hnd) fun y z hy => ?_) _) q
  rw [hf']
  rcases l.back hnd _ hy with e | ⟨e, hne⟩
  · cases e; exact ⟨u, by simp, ru⟩
  · obtain ⟨z', hz, rz⟩ := hm _ _ e
    exact ⟨z', by dsimp only at hne; simp [hne, hz], rz⟩

theorem cellStore {x : Str} {env : Env} {v : V} {u : Value} {ca : Addr} {o0 : Option V} {cs cs' : Cs} {Q : Unit → Cs → Prop}
    (M : MdlC c W F cs s) (ru : RV c W u v) (hc : env.cells.lookup x = some ca) (a : Upd ca (.var o0) (.var (some v)) cs cs') (q : Q () cs')
    (hx : env.kindOf x = some .cell) (hk : env.scope.kind = .function) :
    wpAny (model c.prog c.w) A (storeName env x u) (Post c W F RU Q) NoE s := by
  obtain ⟨o, ho, hr⟩ := M.at a
  have hd : ∃ z, o.data = .cell z := by cases hr with
    | var _ u _ hd _ => exact ⟨_, hd⟩
    | var0 _ u hd => exact ⟨_, hd⟩
  obtain ⟨z, hd⟩ := hd
  refine wpAny_storeName_cell hk hx hc ⟨o, ho, hd⟩ fun h' ⟨o', ho', hd'⟩ hs => ?_
  exact here trivial (M.upd a hs ho' (.var o' u v hd' ru) _) q
end
end U

/-! ## U3 -/
namespace U
open PySem PyProof.Rows PySem.Calls

/-- both ways of a test -/
noncomputable def Ite (b : Bool) (P R : Prop) : Prop := (b = true → P) ∧ (b = false → R)
theorem Ite.t {P R : Prop} (h : P) : Ite true P R := ⟨fun _ => h, fun e => by cases e⟩
theorem Ite.f {P R : Prop} (h : R) : Ite false P R := ⟨fun e => (by cases e), fun _ => h⟩

section
variable {c : Cx} {α β : Type} {A : Around} {cs : Cs} {env : Env}

abbrev Cmp (c : Cx) (A : Around) (cs : Cs) (op : CmpOp) (x y : V) (Q : Bool → Cs → Prop) : Prop := Op2 c A cs (compareOp op) x y (RV c) fun z cs' => ∃ b, z = V.bool b ∧ Q b cs'
abbrev Tru (c : Cx) (A : Around) (cs : Cs) (x : V) (Q : Bool → Cs → Prop) : Prop := Op1 c A cs truthy x RB Q

theorem RV.boolEq {W : Wd} {v : Value} {b : Bool} (h : RV c W v (.bool b)) : v = .bool b := by cases h; rfl

theorem Tru_bool {b : Bool} {Q : Bool → Cs → Prop} (q : Q b cs) : Tru c A cs (.bool b) Q := fun W F s v M r => by
  (first | cases r using Rel.intE | cases r using Rel.refE | cases r using RelL.nilE | cases r using Rel.strE | cases r using Rel.bytesE | cases r using Rel.noneE | cases r using Rel.boolE | cases r using Rel.listE | cases r using Rel.tupE | cases r using Rel.sdE | cases r using Rel.iddE | cases r using Rel.biE | cases r using Rel.tyE | cases r using Rel.rngE | cases r); exact wpAny_truthy_bool (here rfl M q)

/-! ### operators -/
theorem E_BinOp {l r : Expr} {op : Operator} {pos : Pos} {Q : V → Cs → Prop}
    (h : GE c A cs (eval l env) fun x cs1 => GE c A cs1 (eval r env) fun y cs2 => Op2 c A cs2 (binaryOp op) x y (RV c) Q) : GE c A cs (eval (.BinOp l op r pos) env) Q :=
  fun W F s M => wpAny_BinOp (go (h W F s M) fun a s1 W1 x cs1 l1 ra M1 k1 => go (k1 W1 F s1 M1) fun b s2 W2 y cs2 l2 rb M2 k2 =>
    wpNoE (k2 W2 F s2 a b M2 (ra.mono l2) rb) fun r s3 h => (h.back l2).back l1)
theorem E_UnaryOp {x : Expr} {op : UnaryOp} {pos : Pos} {Q : V → Cs → Prop}
    (h : GE c A cs (eval x env) fun x cs1 => Op1 c A cs1 (unaryOp op) x (RV c) Q) : GE c A cs (eval (.UnaryOp op x pos) env) Q :=
  fun W F s M => wpAny_UnaryOp (go (h W F s M) fun a s1 W1 x cs1 l1 ra M1 k1 => wpNoE (k1 W1 F s1 a M1 ra) fun r s3 h => h.back l1)
theorem E_IfExp {t b o : Expr} {pos : Pos} {Q : V → Cs → Prop}
    (h : GB c A cs (isTrue t env (eval t env)) fun z cs1 => Ite z (GE c A cs1 (eval b env) Q) (GE c A cs1 (eval o env) Q)) : GE c A cs (eval (.IfExp t b o pos) env) Q :=
  fun W F s M => wpAny_IfExp (go (h W F s M) fun a s1 W1 x cs1 l1 ra M1 k1 => by
    (first | cases ra using Rel.intE | cases ra using Rel.refE | cases ra using RelL.nilE | cases ra using Rel.strE | cases ra using Rel.bytesE | cases ra using Rel.noneE | cases ra using Rel.boolE | cases ra using Rel.listE | cases ra using Rel.tupE | cases ra using Rel.sdE | cases ra using Rel.iddE | cases ra using Rel.biE | cases ra using Rel.tyE | cases ra using Rel.rngE | cases ra)
    cases a
    · exact wpNoE (k1.2 rfl W1 F s1 M1) fun r s3 h => h.back l1
    · exact wpNoE (k1.1 rfl W1 F s1 M1) fun r s3 h => h.back l1)

/-! ### comparisons -/
theorem E_Cmp1 {l r : Expr} {op : CmpOp} {pos : Pos} {Q : V → Cs → Prop}
    (h : GE c A cs (eval l env) fun x cs1 => GE c A cs1 (eval r env) fun y cs2 => Cmp c A cs2 op x y fun b cs3 => Q (.bool b) cs3)
    (hm : behindInMarks op r = false := by kernel_rfl!) : GE c A cs (eval (.Compare l [op] [r] pos) env) Q :=
  fun W F s M => wpAny_Compare1 (hm := hm) (go (h W F s M) fun a s1 W1 x cs1 l1 ra M1 k1 => go (k1 W1 F s1 M1) fun b s2 W2 y cs2 l2 rb M2 k2 =>
    wpNoE (k2 W2 F s2 a b M2 (ra.mono l2) rb) fun r s3 ⟨W3, z, cs3, l3, rz, M3, b, e, q⟩ => (Post.back l2 (Post.back l3 (by subst e; exact here rz M3 q))).back l1)
theorem B_Cmp1 {l r : Expr} {op : CmpOp} {pos : Pos} {whole : Sem Value} {Q : Bool → Cs → Prop}
    (h : GE c A cs (eval l env) fun x cs1 => GE c A cs1 (eval r env) fun y cs2 => Cmp c A cs2 op x y Q)
    (hm : behindInMarks op r = false := by kernel_rfl!) : GB c A cs (isTrue (.Compare l [op] [r] pos) env whole) Q :=
  fun W F s M => wpAny_isTrue_Compare1 (hm := hm) (go (h W F s M) fun a s1 W1 x cs1 l1 ra M1 k1 => go (k1 W1 F s1 M1) fun b s2 W2 y cs2 l2 rb M2 k2 =>
    wpNoE (k2 W2 F s2 a b M2 (ra.mono l2) rb) fun r s3 ⟨W3, z, cs3, l3, rz, M3, b, e, q⟩ => by
      subst e
      rw [rz.boolEq]
      exact wpAny_truthy_bool (Post.back l1 (Post.back l2 (Post.back l3 (here rfl M3 q)))))
theorem E_Cmp2 {l r1 r2 : Expr} {op1 op2 : CmpOp} {pos : Pos} {Q : V → Cs → Prop}
    (h : GE c A cs (eval l env) fun x cs1 => GE c A cs1 (eval r1 env) fun y cs2 => Cmp c A cs2 op1 x y fun b cs3 =>
      Ite b (GE c A cs3 (eval r2 env) fun z cs4 => Cmp c A cs4 op2 y z fun b' cs5 => Q (.bool b') cs5) (Q (.bool false) cs3))
    (hm : lastMarks [op1, op2] [r1, r2] = false := by kernel_rfl!) : GE c A cs (eval (.Compare l [op1, op2] [r1, r2] pos) env) Q :=
  fun W F s M => Compare_chain (hm := hm) (go (h W F s M) fun a s1 W1 x cs1 l1 ra M1 k1 => chain_link (go (k1 W1 F s1 M1) fun b s2 W2 y cs2 l2 rb M2 k2 =>
    wpNoE (k2 W2 F s2 a b M2 (ra.mono l2) rb) fun r s3 ⟨W3, z, cs3, l3, rz, M3, t, e, q⟩ => by
      subst e
      rw [rz.boolEq]
      refine wpAny_truthy_bool ?_
      cases t with
      | false => exact Post.back l1 (Post.back l2 (Post.back l3 (here (.bool _) M3 (q.2 rfl))))
      | true =>
        refine chain_last (go (q.1 rfl W3 F s3 M3) fun d s4 W4 zz cs4 l4 rd M4 k4 => ?_)
        exact wpNoE (k4 W4 F s4 b d M4 ((rb.mono l3).mono l4) rd) fun r s3 ⟨W5, z, cs5, l5, rz, M5, t, e, q⟩ =>
          Post.back l1 (Post.back l2 (Post.back l3 (Post.back l4 (Post.back l5 (by subst e; exact here rz M5 q)))))))

theorem B_Cmp2 {l r1 r2 : Expr} {op1 op2 : CmpOp} {pos : Pos} {whole : Sem Value} {Q : Bool → Cs → Prop}
    (h : GE c A cs (eval l env) fun x cs1 => GE c A cs1 (eval r1 env) fun y cs2 => Cmp c A cs2 op1 x y fun b cs3 =>
      Ite b (GE c A cs3 (eval r2 env) fun z cs4 => Cmp c A cs4 op2 y z Q) (Q false cs3))
    (hm : lastMarks [op1, op2] [r1, r2] = false := by kernel_rfl!) : GB c A cs (isTrue (.Compare l [op1, op2] [r1, r2] pos) env whole) Q :=
  fun W F s M => isTrue_chain (hm := hm) (go (h W F s M) fun a s1 W1 x cs1 l1 ra M1 k1 => test_link (go (k1 W1 F s1 M1) fun b s2 W2 y cs2 l2 rb M2 k2 =>
    wpNoE (k2 W2 F s2 a b M2 (ra.mono l2) rb) fun r s3 ⟨W3, z, cs3, l3, rz, M3, t, e, q⟩ => by
      subst e
      rw [rz.boolEq]
      refine wpAny_truthy_bool ?_
      cases t with
      | false => exact Post.back l1 (Post.back l2 (Post.back l3 (here rfl M3 (q.2 rfl))))
      | true =>
        refine test_last (go (q.1 rfl W3 F s3 M3) fun d s4 W4 zz cs4 l4 rd M4 k4 => ?_)
        exact wpNoE (k4 W4 F s4 b d M4 ((rb.mono l3).mono l4) rd) fun r s3 ⟨W5, z, cs5, l5, rz, M5, t, e, q⟩ => by
          subst e
          rw [rz.boolEq]
          exact wpAny_truthy_bool (Post.back l1 (Post.back l2 (Post.back l3 (Post.back l4 (Post.back l5 (here rfl M5 q)))))))) 

/-! ### and, or, not -/
theorem E_And {x y : Expr} {pos : Pos} {Q : V → Cs → Prop}
    (h : GE c A cs (eval x env) fun v cs1 => Tru c A cs1 v fun b cs2 => Ite b (GE c A cs2 (eval y env) Q) (Q v cs2)) : GE c A cs (eval (.BoolOp .And [x, y] pos) env) Q :=
  fun W F s M => wpAny_And2 (go (h W F s M) fun a s1 W1 x cs1 l1 ra M1 k1 => go (k1 W1 F s1 a M1 ra) fun b s2 W2 y cs2 l2 rb M2 k2 => by
    (first | cases rb using Rel.intE | cases rb using Rel.refE | cases rb using RelL.nilE | cases rb using Rel.strE | cases rb using Rel.bytesE | cases rb using Rel.noneE | cases rb using Rel.boolE | cases rb using Rel.listE | cases rb using Rel.tupE | cases rb using Rel.sdE | cases rb using Rel.iddE | cases rb using Rel.biE | cases rb using Rel.tyE | cases rb using Rel.rngE | cases rb)
    cases b
    · exact Post.back l1 (Post.back l2 (here (ra.mono l2) M2 (k2.2 rfl)))
    · exact wpNoE (k2.1 rfl W2 F s2 M2) fun r s3 h => Post.back l1 (Post.back l2 h))
theorem E_Or {x y : Expr} {pos : Pos} {Q : V → Cs → Prop}
    (h : GE c A cs (eval x env) fun v cs1 => Tru c A cs1 v fun b cs2 => Ite b (Q v cs2) (GE c A cs2 (eval y env) Q)) : GE c A cs (eval (.BoolOp .Or [x, y] pos) env) Q :=
  fun W F s M => wpAny_Or2 (go (h W F s M) fun a s1 W1 x cs1 l1 ra M1 k1 => go (k1 W1 F s1 a M1 ra) fun b s2 W2 y cs2 l2 rb M2 k2 => by
    (first | cases rb using Rel.intE | cases rb using Rel.refE | cases rb using RelL.nilE | cases rb using Rel.strE | cases rb using Rel.bytesE | cases rb using Rel.noneE | cases rb using Rel.boolE | cases rb using Rel.listE | cases rb using Rel.tupE | cases rb using Rel.sdE | cases rb using Rel.iddE | cases rb using Rel.biE | cases rb using Rel.tyE | cases rb using Rel.rngE | cases rb)
    cases b
    · exact wpNoE (k2.2 rfl W2 F s2 M2) fun r s3 h => Post.back l1 (Post.back l2 h)
    · exact Post.back l1 (Post.back l2 (here (ra.mono l2) M2 (k2.1 rfl))))

theorem B_Not {x : Expr} {pos : Pos} {whole : Sem Value} {Q : Bool → Cs → Prop} (h : GB c A cs (isTrue x env (eval x env)) fun b cs1 => Q (!b) cs1) :
    GB c A cs (isTrue (.UnaryOp .Not x pos) env whole) Q :=
  fun W F s M => wpAny_isTrue_Not (wpNoE (h W F s M) fun b s1 ⟨W1, z, cs1, l1, r, M1, q⟩ => by (first | cases r using Rel.intE | cases r using Rel.refE | cases r using RelL.nilE | cases r using Rel.strE | cases r using Rel.bytesE | cases r using Rel.noneE | cases r using Rel.boolE | cases r using Rel.listE | cases r using Rel.tupE | cases r using Rel.sdE | cases r using Rel.iddE | cases r using Rel.biE | cases r using Rel.tyE | cases r using Rel.rngE | cases r); exact ⟨W1, !b, cs1, l1, rfl, M1, q⟩)
theorem B_AndNil {pos : Pos} {whole : Sem Value} {Q : Bool → Cs → Prop} (h : Q true cs) : GB c A cs (isTrue (.BoolOp .And [] pos) env whole) Q :=
  fun W F s M => isTrue_and_nil (here rfl M h)
theorem B_OrNil {pos : Pos} {whole : Sem Value} {Q : Bool → Cs → Prop} (h : Q false cs) : GB c A cs (isTrue (.BoolOp .Or [] pos) env whole) Q :=
  fun W F s M => isTrue_or_nil (here rfl M h)
theorem B_And {x : Expr} {rest : List Expr} {pos : Pos} {whole : Sem Value} {Q : Bool → Cs → Prop}
    (h : GB c A cs (isTrue x env (eval x env)) fun b cs1 => Ite b (GB c A cs1 (isTrue (.BoolOp .And rest pos) env whole) Q) (Q false cs1)) :
    GB c A cs (isTrue (.BoolOp .And (x :: rest) pos) env whole) Q :=
  fun W F s M => isTrue_and (go (h W F s M) fun b s1 W1 z cs1 l1 r M1 k => by
    (first | cases r using Rel.intE | cases r using Rel.refE | cases r using RelL.nilE | cases r using Rel.strE | cases r using Rel.bytesE | cases r using Rel.noneE | cases r using Rel.boolE | cases r using Rel.listE | cases r using Rel.tupE | cases r using Rel.sdE | cases r using Rel.iddE | cases r using Rel.biE | cases r using Rel.tyE | cases r using Rel.rngE | cases r)
    cases b
    · exact Post.back l1 (here rfl M1 (k.2 rfl))
    · exact wpNoE (k.1 rfl W1 F s1 M1) fun r s3 h => Post.back l1 h)
theorem B_Or {x : Expr} {rest : List Expr} {pos : Pos} {whole : Sem Value} {Q : Bool → Cs → Prop}
    (h : GB c A cs (isTrue x env (eval x env)) fun b cs1 => Ite b (Q true cs1) (GB c A cs1 (isTrue (.BoolOp .Or rest pos) env whole) Q)) :
    GB c A cs (isTrue (.BoolOp .Or (x :: rest) pos) env whole) Q :=
  fun W F s M => isTrue_or (go (h W F s M) fun b s1 W1 z cs1 l1 r M1 k => by
    (first | cases r using Rel.intE | cases r using Rel.refE | cases r using RelL.nilE | cases r using Rel.strE | cases r using Rel.bytesE | cases r using Rel.noneE | cases r using Rel.boolE | cases r using Rel.listE | cases r using Rel.tupE | cases r using Rel.sdE | cases r using Rel.iddE | cases r using Rel.biE | cases r using Rel.tyE | cases r using Rel.rngE | cases r)
    cases b
    · exact wpNoE (k.2 rfl W1 F s1 M1) fun r s3 h => Post.back l1 h
    · exact Post.back l1 (here rfl M1 (k.1 rfl)))
/-- a test that is a value -/
theorem B_val {e : Expr} {Q : Bool → Cs → Prop} (h : GE c A cs (eval e env) fun v cs1 => Tru c A cs1 v Q)
    (he : isTrue e env (eval e env) = (do let v ← eval e env; standAt e.pos; holding [v] (truthy v)) := by with_unfolding_all rfl) : GB c A cs (isTrue e env (eval e env)) Q :=
  fun W F s M => isTrue_plain (he := he) (go (h W F s M) fun a s1 W1 x cs1 l1 ra M1 k1 => wpNoE (k1 W1 F s1 a M1 ra) fun r s3 h => h.back l1)

/-! ### statements -/
theorem S_nil {Q : VF → Cs → Prop} (q : Q .next cs) : GS c A cs (execs [] env) Q := fun W F s M => wpAny_execs_nil (here .next M q)
theorem S_cons {st : Stmt} {rest : List Stmt} {Q : VF → Cs → Prop}
    (h : GS c A cs (exec st env) fun f cs1 => match f with | .next => GS c A cs1 (execs rest env) Q | f => Q f cs1) : GS c A cs (execs (st :: rest) env) Q :=
  fun W F s M => wpAny_execs_cons (go (h W F s M) fun f s1 W1 z cs1 l1 r M1 k => by
    cases r with
    | next => exact wpNoE (k W1 F s1 M1) fun r s3 h => h.back l1
    | brk => exact Post.back l1 (here .brk M1 k)
    | cont => exact Post.back l1 (here .cont M1 k)
    | ret v x h => exact Post.back l1 (here (.ret v x h) M1 k))
theorem S_Return {e : Expr} {pos : Pos} {Q : VF → Cs → Prop} (h : GE c A cs (eval e env) fun v cs1 => Q (.ret v) cs1) : GS c A cs (exec (.Return (some e) pos) env) Q :=
  fun W F s M => wpAny_Return_some (wpNoE (h W F s M) fun v s1 ⟨W1, z, cs1, l1, r, M1, q⟩ => ⟨W1, .ret z, cs1, l1, .ret _ _ r, M1, q⟩)
theorem S_Return0 {pos : Pos} {Q : VF → Cs → Prop} (q : Q (.ret .none) cs) : GS c A cs (exec (.Return none pos) env) Q :=
  fun W F s M => wpAny_Return_none (here (.ret _ _ .none) M q)
theorem S_If {t : Expr} {b o : List Stmt} {pos : Pos} {Q : VF → Cs → Prop}
    (h : GB c A cs (isTrue t env (eval t env)) fun z cs1 => Ite z (GS c A cs1 (execs b env) Q) (GS c A cs1 (execs o env) Q)) : GS c A cs (exec (.If t b o pos) env) Q :=
  fun W F s M => wpAny_If (go (h W F s M) fun a s1 W1 x cs1 l1 ra M1 k1 => by
    (first | cases ra using Rel.intE | cases ra using Rel.refE | cases ra using RelL.nilE | cases ra using Rel.strE | cases ra using Rel.bytesE | cases ra using Rel.noneE | cases ra using Rel.boolE | cases ra using Rel.listE | cases ra using Rel.tupE | cases ra using Rel.sdE | cases ra using Rel.iddE | cases ra using Rel.biE | cases ra using Rel.tyE | cases ra using Rel.rngE | cases ra)
    cases a
    · exact wpNoE (k1.2 rfl W1 F s1 M1) fun r s3 h => h.back l1
    · exact wpNoE (k1.1 rfl W1 F s1 M1) fun r s3 h => h.back l1)
theorem S_Expr {e : Expr} {pos : Pos} {Q : VF → Cs → Prop} (h : GE c A cs (eval e env) fun _ cs1 => Q .next cs1)
    (hi : interactive env = false := by kernel_rfl!) (hs : swapsWith e none pos.line env = pure false := by with_unfolding_all rfl) : GS c A cs (exec (.Expr e pos) env) Q :=
  fun W F s M => wpAny_Expr_any (hi := hi) (hs := hs) (go (h W F s M) fun v s1 W1 z cs1 l1 r M1 q => Post.back l1 (here .next M1 q))

/-- a store by name, a local -/
theorem S_Assign {x : Str} {pos' pos : Pos} {value : Expr} {Q : VF → Cs → Prop}
    (h : GE c A cs (eval value env) fun v cs1 => ∃ loc loc' cs2, Upd env.locals (.frame loc) (.frame loc') cs1 cs2 ∧ LocPut x v loc loc' ∧ Q .next cs2)
    (hx : env.kindOf x = some .local := by kernel_rfl!) (hk : env.scope.kind = .function := by kernel_rfl!)
    (hs : swapsWith value (some (.Name x pos')) pos.line env = pure false := by with_unfolding_all rfl) : GS c A cs (exec (.Assign [.Name x pos'] value pos) env) Q :=
  fun W F s M => wpAny_Assign_Name (hs := hs) (go (h W F s M) fun v s1 W1 z cs1 l1 r M1 ⟨loc, loc', cs2, u, lp, q⟩ =>
    go (store (Q := fun _ => Q .next) M1 r u lp q hx hk) fun _ s2 W2 _ cs2 l2 _ M2 q => Post.back l1 (Post.back l2 (here .next M2 q)))
/-- a store by name, a cell -/
theorem S_AssignC {x : Str} {pos' pos : Pos} {value : Expr} {Q : VF → Cs → Prop} {ca : Addr} (hx : env.kindOf x = some .cell) (hc : env.cells.lookup x = some ca)
    (h : GE c A cs (eval value env) fun v cs1 => ∃ o0 cs2, Upd ca (.var o0) (.var (some v)) cs1 cs2 ∧ Q .next cs2)
    (hk : env.scope.kind = .function := by kernel_rfl!)
    (hs : swapsWith value (some (.Name x pos')) pos.line env = pure false := by with_unfolding_all rfl) : GS c A cs (exec (.Assign [.Name x pos'] value pos) env) Q :=
  fun W F s M => wpAny_Assign_Name (hs := hs) (go (h W F s M) fun v s1 W1 z cs1 l1 r M1 ⟨o0, cs2, u, q⟩ =>
    go (cellStore (Q := fun _ => Q .next) M1 r hc u q hx hk) fun _ s2 W2 _ cs2 l2 _ M2 q => Post.back l1 (Post.back l2 (here .next M2 q)))

noncomputable def Op3 (c : Cx) (A : Around) (cs : Cs) (t : Value → Value → Value → Sem α) (x y z : V) (R : Wd → α → β → Prop) (Q : β → Cs → Prop) : Prop :=
  ∀ W F s v u r, MdlC c W F cs s → RV c W v x → RV c W u y → RV c W r z → wpAny (model c.prog c.w) A (t v u r) (Post c W F R Q) NoE s

theorem S_AssignSub {o i : Expr} {pos' pos : Pos} {value : Expr} {Q : VF → Cs → Prop}
    (h : GE c A cs (eval value env) fun v cs1 => GE c A cs1 (eval o env) fun ov cs2 => GE c A cs2 (eval i env) fun iv cs3 => Op3 c A cs3 setItem ov iv v RU fun _ cs4 => Q .next cs4)
    (hs : swapsWith value (some (.Subscript o i pos')) pos.line env = pure false := by with_unfolding_all rfl) : GS c A cs (exec (.Assign [.Subscript o i pos'] value pos) env) Q :=
  fun W F s M => wpAny_Assign_Subscript (hs := hs) (go (h W F s M) fun v s1 W1 z cs1 l1 r1 M1 k1 => go (k1 W1 F s1 M1) fun ov s2 W2 z2 cs2 l2 r2 M2 k2 => go (k2 W2 F s2 M2) fun iv s3 W3 z3 cs3 l3 r3 M3 k3 =>
    go (k3 W3 F s3 ov iv v M3 (r2.mono l3) r3 ((r1.mono l2).mono l3)) fun _ s4 W4 _ cs4 l4 _ M4 q => Post.back l1 (Post.back l2 (Post.back l3 (Post.back l4 (here .next M4 q)))))
theorem S_AssignAttr {o : Expr} {attr : Str} {pos' pos : Pos} {value : Expr} {Q : VF → Cs → Prop}
    (h : GE c A cs (eval value env) fun v cs1 => GE c A cs1 (eval o env) fun ov cs2 => Op2 c A cs2 (fun a b => setAttr a attr b) ov v RU fun _ cs4 => Q .next cs4)
    (hs : swapsWith value (some (.Attribute o attr pos')) pos.line env = pure false := by with_unfolding_all rfl) : GS c A cs (exec (.Assign [.Attribute o attr pos'] value pos) env) Q :=
  fun W F s M => plainObj_wpAny_Assign_Attribute (hs := hs) (go (h W F s M) fun v s1 W1 z cs1 l1 r1 M1 k1 => go (k1 W1 F s1 M1) fun ov s2 W2 z2 cs2 l2 r2 M2 k2 =>
    go (k2 W2 F s2 ov v M2 r2 (r1.mono l2)) fun _ s4 W4 _ cs4 l4 _ M4 q => Post.back l1 (Post.back l2 (Post.back l4 (here .next M4 q))))

/-- what assign does with a target -/
abbrev Asg (c : Cx) (A : Around) (cs : Cs) (t : Expr) (env : Env) (x : V) (Q : Unit → Cs → Prop) : Prop := Op1 c A cs (assign t env) x RU Q
theorem Asg_Name {x : Str} {pos : Pos} {v : V} {Q : Unit → Cs → Prop} {loc loc' : List (Str × Option V)} {cs2 : Cs} (u : Upd env.locals (.frame loc) (.frame loc') cs cs2) (l : LocPut x v loc loc') (q : Q () cs2)
    (hx : env.kindOf x = some .local := by kernel_rfl!) (hk : env.scope.kind = .function := by kernel_rfl!) : Asg c A cs (.Name x pos) env v Q :=
  fun W F s w M r => wpAny_assign_Name (store M r u l q hx hk)
theorem Asg_Attr {o : Expr} {attr : Str} {pos : Pos} {v : V} {Q : Unit → Cs → Prop}
    (h : GE c A cs (eval o env) fun ov cs2 => Op2 c A cs2 (fun a b => setAttr a attr b) ov v RU Q) : Asg c A cs (.Attribute o attr pos) env v Q :=
  fun W F s w M r => by
    show wpAny _ A (do let ov ← holding [w] (eval o env); standAt pos.atName; holding [w, ov] (setAttr ov attr w); release [w, ov] []) _ _ s
    refine wpAny_bind (wpAny_holding (go (h W F s M) fun ov s2 W2 z2 cs2 l2 r2 M2 k2 => wpAny_bind (wpAny_standAt (wpAny_bind (wpAny_holding ?_)))))
    exact wpNoE (k2 W2 F s2 ov w M2 r2 (r.mono l2)) fun _ s3 h => wpAny_release' (Post.back l2 h)

theorem S_AssignTup {elts : List Expr} {k : Nat} {tpos pos : Pos} {value : Expr} {Q : VF → Cs → Prop}
    (h : GE c A cs (eval value env) fun v cs1 => Asg c A cs1 (.Tuple elts k tpos) env v fun _ cs2 => Q .next cs2)
    (hs : swapsWithSole [.Tuple elts k tpos] value pos.line env = pure false := by with_unfolding_all rfl)
    (hw : swappedStores [.Tuple elts k tpos] value env = pure none := by with_unfolding_all rfl) : GS c A cs (exec (.Assign [.Tuple elts k tpos] value pos) env) Q :=
  fun W F s M => Assign_Tuple (hs := hs) (hw := hw) (go (h W F s M) fun v s1 W1 z cs1 l1 r1 M1 k1 => go (k1 W1 F s1 v M1 r1) fun _ s4 W4 _ cs4 l4 _ M4 q => Post.back l1 (Post.back l4 (here .next M4 q)))

/-- the parts of a tuple to their targets -/
noncomputable def Asgs (c : Cx) (A : Around) (env : Env) : List Expr → List V → Cs → (Unit → Cs → Prop) → Prop
  | [], [], cs, Q => Q () cs
  | t :: ts, x :: xs, cs, Q => Asg c A cs t env x fun _ cs1 => Asgs c A env ts xs cs1 Q
  | _, _, _, _ => False
noncomputable def noStar : List Expr → Bool
  | [] => true
  | .Starred _ _ :: _ => false
  | _ :: r => noStar r
theorem assignEach_plain : ∀ {ts : List Expr}, noStar ts = true → (assignEach ts env).map (·.2) = ts.map (fun t => assign t env) ∧ (assignEach ts env).findIdx? (·.1) = none ∧ (assignEach ts env).length = ts.length
  | [], _ => ⟨rfl, rfl, rfl⟩
  | t :: r, h => by
    have hr : noStar r = true := by cases t <;> first | exact h | cases h
    obtain ⟨a, b, d⟩ := assignEach_plain hr
    have e : assignEach (t :: r) env = (false, assign t env) :: assignEach r env := by cases t <;> first | rfl | cases h
    rw [e]
    refine ⟨by simp [a], ?_, by simp [d]⟩
    rw [List.findIdx?_cons]
    simp [b]
theorem Asgs.run : ∀ {ts : List Expr} {xs : List V} {cs : Cs} {Q : Unit → Cs → Prop}, Asgs c A env ts xs cs Q →
    OpL c A cs (fun vs => assignInOrder (ts.map fun t => assign t env) vs) xs RU Q
  | [], [], cs, Q, h => fun W F s vs M r => by (first | cases r using Rel.intE | cases r using Rel.refE | cases r using RelL.nilE | cases r using Rel.strE | cases r using Rel.bytesE | cases r using Rel.noneE | cases r using Rel.boolE | cases r using Rel.listE | cases r using Rel.tupE | cases r using Rel.sdE | cases r using Rel.iddE | cases r using Rel.biE | cases r using Rel.tyE | cases r using Rel.rngE | cases r); exact wpAny_pure (here trivial M h)
  | t :: ts, x :: xs, cs, Q, h => fun W F s vs M r => by
    cases r using RelL.consE with
    | cons v _ vs _ rv rvs =>
      show wpAny _ A (do holding vs (assign t env v); assignInOrder (ts.map fun t => assign t env) vs) _ _ s
      refine wpAny_bind (wpAny_holding (go (h W F s v M rv) fun _ s1 W1 _ cs1 l1 _ M1 k => ?_))
      exact wpNoE (Asgs.run k W1 F s1 vs M1 (RelL.mono c.w c.ad l1 rvs)) fun _ s2 h => h.back l1
  | [], _ :: _, _, _, h => h.elim
  | _ :: _, [], _, _, h => h.elim

theorem RV.tupInv {W : Wd} {v : Value} {l : List V} (h : RV c W v (.tup l)) : ∃ a vs n, v = .ref a ∧ W a = some (tupObj vs n) ∧ RL c W vs l := by
  cases h with
  | tup a vs n _ h r => exact ⟨a, vs, n, rfl, h, r⟩
theorem RL.len {W : Wd} {vs : List Value} {l : List V} (h : RL c W vs l) : vs.length = l.length := by
  induction vs generalizing l with
  | nil => cases h; rfl
  | cons v vs ih => cases h with
    | cons _ x _ l _ r => simp [ih r]

theorem Asg_Tuple {elts : List Expr} {k : Nat} {pos : Pos} {l : List V} {Q : Unit → Cs → Prop} (hA : A.handled = none) (h : Asgs c A env elts l cs Q)
    (hn : elts.length = l.length := by kernel_rfl!) (hst : noStar elts = true := by kernel_rfl!) : Asg c A cs (.Tuple elts k pos) env (.tup l) Q := by
  intro W F s v M r
  obtain ⟨a, vs, n, rfl, hW, rl⟩ := r.tupInv
  obtain ⟨p1, p2, p3⟩ := assignEach_plain (env := env) hst
  have ht : s.heap.IsTuple a vs.toArray := ⟨_, M.hw _ _ hW, rfl, n, rfl⟩
  show wpAny _ A (do standAt pos; unpack (.ref a) (assignEach elts env)) _ _ s
  refine wpAny_bind (wpAny_standAt (wpAny_unpack_tuple hA ht (by rw [p3]; simp [rl.len, hn]) p2 fun h' hx => ?_))
  rw [p1]
  have f := M.fresh
  exact h.run W F { s with heap := h' } vs (M.step f.1 f.2.1 f.2.2 (fun b o e q => hx b o e q) s.toks) rl
end
end U

/-! ## U4 -/
namespace U
open PySem PyProof.Rows PySem.Calls

/-! ### while -/
section
variable {c : Cx} {α β : Type} {A : Around} {cs : Cs} {env : Env}

/-- the body's ways back into a loop -/
noncomputable def LoopK (again : Cs → Prop) (Q : VF → Cs → Prop) : VF → Cs → Prop
  | .next, cs => again cs
  | .cont, cs => again cs
  | .brk, cs => Q .next cs
  | .ret v, cs => Q (.ret v) cs

noncomputable def codeR (c : Cx) (W F : Wd) (Q : VF → Cs → Prop) (r : Result) (s : Shared) : Prop := match r with
  | .ok f => Post c W F (RF c) Q f s
  | .error _ => False
theorem codeR.back {W W1 F : Wd} (l : Le W W1) {Q : VF → Cs → Prop} {r : Result} {s : Shared} (h : codeR c W1 F Q r s) : codeR c W F Q r s := by
  cases r with
  | ok f => exact Post.back l h
  | error e => exact h

noncomputable def GW (c : Cx) (A : Around) (cs : Cs) (test : Expr) (body orelse : List Stmt) (env : Env) (Q : VF → Cs → Prop) : Prop :=
  ∀ W F s, MdlC c W F cs s → codeAny (model c.prog c.w) A (.whileLoop test body orelse env) (codeR c W F Q) s

theorem S_While {test : Expr} {body orelse : List Stmt} {pos : Pos} {Q : VF → Cs → Prop} (h : GW c A cs test body orelse env Q) : GS c A cs (exec (.While test body orelse pos) env) Q :=
  fun W F s M => wpAny_While (codeAny_mono (h W F s M) fun r s' hr => by
    cases r with
    | ok f => exact hr
    | error e => exact hr.elim)

theorem GW.step {test : Expr} {body orelse : List Stmt} {Q : VF → Cs → Prop}
    (h : GB c A cs (isTrue test env (eval test env)) fun b cs1 => Ite b (GS c A cs1 (execs body env) (LoopK (fun cs2 => GW c A cs2 test body orelse env Q) Q)) (GS c A cs1 (execs orelse env) Q)) :
    GW c A cs test body orelse env Q := fun W F s M => by
  refine codeAny_of_tree ?_
  show wpAny _ A ((whileTurn test body orelse env).onRaise (fun x => do noteFrame x env; theTreesLotGoes x)) _ _ s
  refine wpAny_noted ?_
  simp only [whileTurn]
  refine wpAny_bind (go (h W F s M) fun b s1 W1 x cs1 l1 r1 M1 k => ?_)
  (first | cases r1 using Rel.intE | cases r1 using Rel.refE | cases r1 using RelL.nilE | cases r1 using Rel.strE | cases r1 using Rel.bytesE | cases r1 using Rel.noneE | cases r1 using Rel.boolE | cases r1 using Rel.listE | cases r1 using Rel.tupE | cases r1 using Rel.sdE | cases r1 using Rel.iddE | cases r1 using Rel.biE | cases r1 using Rel.tyE | cases r1 using Rel.rngE | cases r1)
  cases b with
  | false =>
    simp only [Bool.false_eq_true, if_false]
    refine wpAny_bind (wpNoE (k.2 rfl W1 F s1 M1) fun f s3 h3 => ?_)
    exact wpAny_pure (Post.back l1 h3)
  | true =>
    simp only [if_true]
    refine wpAny_bind (go (k.1 rfl W1 F s1 M1) fun f s3 W3 z cs3 l3 r3 M3 q => ?_)
    cases r3 with
    | next => exact wpAny_pure ⟨rfl, codeAny_mono (q W3 F s3 M3) fun r s' hr => (hr.back l3).back l1⟩
    | cont => exact wpAny_pure ⟨rfl, codeAny_mono (q W3 F s3 M3) fun r s' hr => (hr.back l3).back l1⟩
    | brk => exact wpAny_pure (Post.back l1 (Post.back l3 (here .next M3 q)))
    | ret v x hv => exact wpAny_pure (Post.back l1 (Post.back l3 (here (.ret v x hv) M3 q)))

/-! ### iterators -/
noncomputable def plainIt (o : Obj) : Prop := ∀ n, o.cls = .type n → ["enumerate", "zip", "dict_itemiterator", "dict_reverseitemiterator", "odict_iterator", "itertools.zip_longest", "itertools.pairwise"].contains n = false

inductive ItAt (c : Cx) (W : Wd) (h : Heap) (I : Addr) (rest : List V) : Prop
  | mk (fp : List Addr) (n : Nat) (P : Nat → Value → Prop) (St : Nat → Heap → Prop) (i : Nat) (wk : ∀ A : Around, A.handled = none → Walks c.prog c.w A I fp [I] n P St) (st : St i h) (hn : n = i + rest.length)
    (hP : ∀ j v x, rest[j]? = some x → P (i + j) v → RV c W v x) (hfp : ∀ b ∈ fp, b = I ∨ ∃ o, W b = some o) (hI : ∀ j h, St j h → ∃ o, h.get? I = some o ∧ plainIt o)

structure Free (W F : Wd) (cs : Cs) (I : Addr) : Prop where
  w : W I = none
  f : F I = none
  c : ∀ p ∈ cs, p.1 ≠ I

/-- the values of a loop over x -/
noncomputable def IterV (c : Cx) (x : V) (l : List V) : Prop :=
  ∀ (A : Around) (W F : Wd) (cs : Cs) (s : Shared) (v : Value) (Q : Value → Shared → Prop) (E : Value → Shared → Prop), A.handled = none → MdlC c W F cs s → RV c W v x →
    (∀ I s', MdlC c W F cs s' → ItAt c W s'.heap I l → Free W F cs I → Q (.ref I) s') → wpAny (model c.prog c.w) A (pyIter v) Q E s

theorem Mdl.push1 {W F : Wd} {s : Shared} (M : MdlC c W F cs s) (o : Obj) : MdlC c W F cs { s with heap := s.heap.push o } ∧ Free W F cs s.heap.objs.size :=
  ⟨M.step M.fresh.1 M.fresh.2.1 M.fresh.2.2 (fun b o' _ e => Heap.get?_push_of_some _ e) s.toks, ⟨M.fresh.1, M.fresh.2.1, M.fresh.2.2⟩⟩

theorem RL.get {W : Wd} {vs : List Value} {l : List V} (h : RL c W vs l) : ∀ (j : Nat) (v : Value) (x : V), vs[j]? = some v → l[j]? = some x → RV c W v x := by
  induction vs generalizing l with
  | nil => intro j v x hv _; simp at hv
  | cons u vs ih => cases h with
    | cons _ y _ l r rs =>
      intro j v x hv hx
      cases j with
      | zero => simp at hv hx; subst hv hx; exact r
      | succ j => simp at hv hx; exact ih rs j v x hv hx

theorem IterV_list {l : List V} : IterV c (.list l) l := by
  intro A W F cs s v Q E hA M r k
  cases r using Rel.listE with
  | list a vs n _ h r =>
    have hl : s.heap.IsList a vs.toArray := ⟨_, M.hw _ _ h, rfl, n, rfl⟩
    refine wpAny_pyIter_list hl ?_
    obtain ⟨M', fr⟩ := Mdl.push1 M { cls := .type "list_iterator", data := .fields #[.ref a, .int 0 0] }
    have hne : a ≠ s.heap.objs.size := fun e => by have := fr.w; rw [← e, h] at this; cases this
    refine k _ _ M' ⟨_, _, _, _, 0, fun A' h' => Walks.list h' s.heap.objs.size a hne vs.toArray, ⟨⟨_, Heap.get?_push_size _ rfl, rfl, rfl⟩, ⟨_, Heap.get?_push_of_some _ (M.hw _ _ h), rfl, n, rfl⟩⟩, ?_, ?_, ?_, ?_⟩ fr
    · simp [RL.len r]
    · intro j v x hx hv
      simp only [Nat.zero_add, List.getElem?_toArray] at hv
      exact RL.get r _ _ _ hv hx
    · intro b hb
      simp only [List.mem_cons, List.not_mem_nil, or_false] at hb
      rcases hb with rfl | rfl
      · exact .inl rfl
      · exact .inr ⟨_, h⟩
    · rintro j h ⟨⟨o, h1, h2, _⟩, _⟩
      exact ⟨o, h1, fun n e => by rw [h2] at e; cases e; decide +kernel⟩

theorem IterV_bytes {l : List Nat} : IterV c (.bytes l) (l.map fun (n : Nat) => V.int n) := by
  intro A W F cs s v Q E hA M r k
  cases r using Rel.bytesE with
  | bytes b t _ e =>
    subst e
    refine PySem.W.KBw.pyIter_bytes ?_
    obtain ⟨M', fr⟩ := Mdl.push1 M { cls := .type "bytes_iterator", data := .fields #[.bytes b t, .int 0 0] }
    refine k _ _ M' ⟨_, _, _, _, 0, fun A' h' => PySem.W.KBw.walks h' s.heap.objs.size b t, ⟨_, Heap.get?_push_size _ rfl, rfl, rfl⟩, ?_, ?_, ?_, ?_⟩ fr
    · simp
    · rintro j v x hx ⟨d, u, hd, rfl⟩
      simp only [Nat.zero_add] at hd
      have : x = V.int d.toNat := by
        simp only [List.map_map, List.getElem?_map] at hx
        rw [show b.toList[j]? = some d by rw [Array.getElem?_toList]; exact hd] at hx
        simpa using hx.symm
      rw [this]; exact .int _ _
    · intro b hb; exact .inl (List.mem_singleton.mp hb)
    · rintro j h ⟨o, h1, h2, _⟩
      exact ⟨o, h1, fun n e => by rw [h2] at e; cases e; decide +kernel⟩

theorem IterV_str {l : List Nat} : IterV c (.str l) (l.map fun n => V.str [n]) := by
  intro A W F cs s v Q E hA M r k
  cases r using Rel.strE with
  | str x t _ e =>
    subst e
    have items : ∀ j v y, (x.cps.toList.map fun n => V.str [n])[j]? = some y → SignAt x (0 + j) v → RV c W v y := by
      rintro j v y hy ⟨d, u, hd, rfl⟩
      simp only [Nat.zero_add] at hd
      have : y = V.str [d] := by
        simp only [List.getElem?_map] at hy
        rw [show x.cps.toList[j]? = some d by rw [Array.getElem?_toList]; exact hd] at hy
        simpa using hy.symm
      rw [this]; exact .str _ _ _ rfl
    cases ha : x.cps.all (· < 128)
    · refine wpAny_pyIter_wide ha ?_
      obtain ⟨M', fr⟩ := Mdl.push1 M { cls := .type "str_iterator", data := .fields #[.str x t, .int 0 0] }
      refine k _ _ M' ⟨_, _, _, _, 0, fun A' h' => Walks.strWide h' s.heap.objs.size x t, ⟨_, Heap.get?_push_size _ rfl, rfl, rfl⟩, by simp, items, fun b hb => .inl (List.mem_singleton.mp hb), ?_⟩ fr
      rintro j h ⟨o, h1, h2, _⟩
      exact ⟨o, h1, fun n e => by rw [h2] at e; cases e; decide +kernel⟩
    · refine wpAny_pyIter_ascii ha ?_
      obtain ⟨M', fr⟩ := Mdl.push1 M { cls := .type "str_ascii_iterator", data := .fields #[.str x t, .int 0 0] }
      refine k _ _ M' ⟨_, _, _, _, 0, fun A' h' => Walks.strAscii h' s.heap.objs.size x t, ⟨_, Heap.get?_push_size _ rfl, rfl, rfl⟩, by simp, items, fun b hb => .inl (List.mem_singleton.mp hb), ?_⟩ fr
      rintro j h ⟨o, h1, h2, _⟩
      exact ⟨o, h1, fun n e => by rw [h2] at e; cases e; decide +kernel⟩


theorem IterV_tup {l : List V} : IterV c (.tup l) l := by
  intro A W F cs s v Q E hA M r k
  cases r using Rel.tupE with
  | tup a vs n _ h r =>
    have hl : s.heap.IsTuple a vs.toArray := ⟨_, M.hw _ _ h, rfl, n, rfl⟩
    refine wpAny_pyIter_tuple hl ?_
    obtain ⟨M', fr⟩ := Mdl.push1 M { cls := .type "tuple_iterator", data := .fields #[.ref a, .int 0 0] }
    have hne : a ≠ s.heap.objs.size := fun e => by have := fr.w; rw [← e, h] at this; cases this
    refine k _ _ M' ⟨[s.heap.objs.size, a], vs.toArray.size, fun i v => vs.toArray[i]? = some v, fun i h => h.IsTupleIter s.heap.objs.size a i ∧ h.IsTuple a vs.toArray, 0, fun A' h' => ?_,
      ⟨⟨_, Heap.get?_push_size _ rfl, rfl, rfl⟩, ⟨_, Heap.get?_push_of_some _ (M.hw _ _ h), rfl, n, rfl⟩⟩, ?_, ?_, ?_, ?_⟩ fr
    · exact {
        sub := fun b hb => by simp at hb; simp [hb]
        frame := fun _ _ _ st hk => ⟨st.1.at fun o e => hk _ (by simp) o e, let ⟨o, ho, r⟩ := st.2; ⟨o, hk a (by simp) o ho, r⟩⟩
        item := fun i s Q E hi st hQ => by
          refine wpAny_pyNext_tuple_item st.1 st.2 (x := vs.toArray[i]) (by simp [hi]) fun h' hit' hs' => ?_
          exact hQ _ h' s.toks (by simp [hi]) ⟨hit', let ⟨o, ho, r⟩ := st.2; ⟨o, (hs'.2 a hne).trans ho, r⟩⟩ fun b o hb e => hs'.extBut b o (fun h => hb (by simp [h])) e
        done := fun s Q E st hQ => wpAny_pyNext_tuple_end h' st.1 st.2 (by simp) fun h' he' => hQ h' s.toks fun b o hb e => he' b o (fun h => hb (by simp [h])) e
        self := fun _ _ _ _ st hQ => wpAny_pyIter_tupleiter st.1 hQ }
    · simp [RL.len r]
    · intro j v x hx hv
      simp only [Nat.zero_add, List.getElem?_toArray] at hv
      exact RL.get r _ _ _ hv hx
    · intro b hb
      simp only [List.mem_cons, List.not_mem_nil, or_false] at hb
      rcases hb with rfl | rfl
      · exact .inl rfl
      · exact .inr ⟨_, h⟩
    · rintro j h ⟨⟨o, h1, h2, _⟩, _⟩
      exact ⟨o, h1, fun n e => by rw [h2] at e; cases e; decide +kernel⟩

theorem IterV_rng {lo hi : Int} (h0 : -(2 ^ 40) ≤ lo) (h2 : lo ≤ 2 ^ 40) (h3 : -(2 ^ 40) ≤ hi) (h1 : hi ≤ 2 ^ 40) : IterV c (.rng lo hi) ((List.range (hi - lo).toNat).map fun (i : Nat) => V.int (lo + i)) := by
  intro A W F cs s v Q E hA M r k
  cases r using Rel.rngE with
  | rng a _ _ t u w h =>
    have hsz : (if lo < hi then hi - lo else 0) = ((hi - lo).toNat : Int) := by split <;> lia
    have hn : Builtin.Range.rangeSize lo hi 1 = ((hi - lo).toNat : Int) := by
      unfold Builtin.Range.rangeSize
      simp
      lia
    have hsm : Builtin.Range.small lo hi 1 = true := by
      unfold Builtin.Range.small
      rw [hn]
      simp only [Builtin.Range.rangeFitsLong, Bool.and_eq_true, Bool.or_eq_true, decide_eq_true_eq]
      simp
      lia
    refine wpAny_pyIter_range (M.hw _ _ h) hsm ?_
    obtain ⟨M', fr⟩ := Mdl.push1 M { cls := .type "range_iterator", data := .fields #[rawInt lo, rawInt (Builtin.Range.rangeSize lo hi 1), rawInt 1] }
    refine k _ _ M' ⟨_, _, _, _, 0, fun A' h' => Walks.range h' s.heap.objs.size lo 1 (hi - lo).toNat, ?_, by simp, ?_, fun b hb => .inl (List.mem_singleton.mp hb), ?_⟩ fr
    · show IsRangeIter _ _ _ _ _
      rw [← hn]
      simpa using Heap.get?_push_size s.heap (o := { cls := .type "range_iterator", data := .fields #[rawInt lo, rawInt (Builtin.Range.rangeSize lo hi 1), rawInt 1] }) rfl
    · rintro j v x hx ⟨t, rfl⟩
      have : x = V.int (lo + j) := by
        simp only [List.getElem?_map] at hx
        by_cases hj : j < (hi - lo).toNat
        · rw [List.getElem?_range hj] at hx; simpa using hx.symm
        · rw [List.getElem?_eq_none (by simp; lia)] at hx; simp at hx
      rw [this]
      have e : lo + ((0 + j : Nat) : Int) * 1 = lo + j := by simp
      rw [e]; exact .int _ _
    · intro j h hh
      exact ⟨_, hh, fun n e => by cases e; decide +kernel⟩

/-! ### for -/
noncomputable def notSet : Expr → Bool
  | .Set .. => false
  | _ => true
theorem foldSet_of {e : Expr} {env : Env} (h : notSet e = true) : ∀ x, foldedSetIterable e env x = pure x := by
  intro x
  cases e <;> first | rfl | cases h

theorem owned_go {M : Model} {A : Around} {E : Value → Shared → Prop} {s : Shared} {target : Expr} {I : Addr} {v : Value} {o : Obj} {Q : Unit → Shared → Prop} (ho : s.heap.get? I = some o) (hp : plainIt o) (q : Q () s) :
    wpAny M A (letOwnedTupleGo target (.ref I) v) Q E s := by
  unfold letOwnedTupleGo
  split
  · cases v <;> first | exact wpAny_pure q | skip
    refine wpAny_bind (wpAny_load ho ?_)
    split
    · rename_i n vs hc hd
      have := hp n hc
      rw [this]
      exact wpAny_pure q
    · exact wpAny_pure q
  · cases v <;> first | exact wpAny_pure q | skip
    refine wpAny_bind (wpAny_load ho ?_)
    split
    · rename_i n vs hc hd
      have := hp n hc
      rw [this]
      exact wpAny_pure q
    · exact wpAny_pure q
  · exact wpAny_pure q

noncomputable def GF (c : Cx) (A : Around) (target : Expr) (body orelse : List Stmt) (env : Env) (rest : List V) (cs : Cs) (Q : VF → Cs → Prop) : Prop :=
  ∀ W F s I, MdlC c W F cs s → ItAt c W s.heap I rest → Free W F cs I → codeAny (model c.prog c.w) A (.forLoop target (.ref I) body orelse env) (codeR c W F Q) s

theorem GF.nil {target : Expr} {body : List Stmt} {Q : VF → Cs → Prop} (hA : A.handled = none) (q : Q .next cs) : GF c A target body [] env [] cs Q := fun W F s I M it fr => by
  obtain ⟨fp, n, P, St, i, wk, st, hn, hP, hfp, hI⟩ := it
  refine codeAny_of_tree ?_
  show wpAny _ A ((forTurn target (.ref I) body [] env).onRaise (fun x => do noteFrame x env; theTreesLotGoes x)) _ _ s
  refine wpAny_noted ?_
  simp only [forTurn]
  have hi : n = i := by simpa using hn
  refine wpAny_bind (wpAny_standAt (wpAny_bind (wpAny_onRaise ((wk A hA).done _ _ _ (hi ▸ st) fun h' tk hk => ?_))))
  refine wpAny_pure ⟨rfl, codeAny_block ?_⟩
  have M' := M.step fr.w fr.f fr.c (fun b o hb e => hk b o (by simp [hb]) e) tk
  exact wpAny_execs_nil (here .next M' q)

theorem GF.cons {target : Expr} {body orelse : List Stmt} {x : V} {rest : List V} {Q : VF → Cs → Prop} (hA : A.handled = none)
    (h : Asg c A cs target env x fun _ cs1 => GS c A cs1 (execs body env) (LoopK (fun cs2 => GF c A target body orelse env rest cs2 Q) Q)) :
    GF c A target body orelse env (x :: rest) cs Q := fun W F s I M it fr => by
  obtain ⟨fp, n, P, St, i, wk, st, hn, hP, hfp, hI⟩ := it
  refine codeAny_of_tree ?_
  show wpAny _ A ((forTurn target (.ref I) body orelse env).onRaise (fun x => do noteFrame x env; theTreesLotGoes x)) _ _ s
  refine wpAny_noted ?_
  simp only [forTurn]
  rw [List.length_cons] at hn
  refine wpAny_bind (wpAny_standAt (wpAny_bind (wpAny_onRaise ((wk A hA).item i _ _ _ (by lia) st fun v h' tk pv st' hk => ?_))))
  have M' := M.step fr.w fr.f fr.c (fun b o hb e => hk b o (by simp [hb]) e) tk
  obtain ⟨o, ho, hpl⟩ := hI _ _ st'
  dsimp only
  refine wpAny_bind (owned_go ho hpl ?_)
  have M2 := M'.lend fr.w fr.c ho
  have rv : RV c W v x := hP 0 v x rfl pv
  refine wpAny_bind (go (h W _ _ v M2 rv) fun _ s1 W1 _ cs1 l1 _ M1 k => ?_)
  refine wpAny_bind (go (k W1 _ s1 M1) fun f s3 W3 z cs3 l3 r3 M3 q => ?_)
  have up : ∀ b o', F b = some o' → (F.put I o) b = some o' := fun b o' e => by
    unfold Wd.put
    by_cases qq : b = I
    · rw [qq, fr.f] at e; cases e
    · rw [if_neg qq]; exact e
  have M4 := M3.unlend up
  have hIF : (F.put I o) I = some o := by unfold Wd.put; rw [if_pos rfl]
  cases r3 with
  | next | cont =>
    refine wpAny_pure ⟨rfl, codeAny_mono (q W3 F s3 I M4 ⟨fp, n, P, St, i + 1, wk, ?_, by lia, ?_, ?_, hI⟩ ⟨M3.wf _ _ hIF, fr.f, fun p hp e => ?_⟩) fun r s' hr => (hr.back l3).back l1⟩
    · refine (wk A hA).frame _ _ _ st' fun b hb o' e => ?_
      rcases hfp b hb with rfl | ⟨o2, h2⟩
      · rw [ho] at e; cases e; exact M3.hf _ _ hIF
      · have e2 := M'.hw _ _ h2
        rw [e2] at e; cases e
        exact M3.hw _ _ (l3 _ _ (l1 _ _ h2))
    · intro j u y hy pu
      exact RV.mono l3 (RV.mono l1 (hP (j + 1) u y (by simpa using hy) (by rw [show i + (j + 1) = i + 1 + j by lia]; exact pu)))
    · intro b hb
      rcases hfp b hb with rfl | ⟨o2, h2⟩
      · exact .inl rfl
      · exact .inr ⟨o2, l3 _ _ (l1 _ _ h2)⟩
    · obtain ⟨_, _, _, _, hf⟩ := M3.own p hp
      rw [e, hIF] at hf; cases hf
  | brk => exact wpAny_pure (Post.back l1 (Post.back l3 (here .next M4 q)))
  | ret v x hv => exact wpAny_pure (Post.back l1 (Post.back l3 (here (.ret v x hv) M4 q)))

theorem S_For {target iter : Expr} {body orelse : List Stmt} {pos : Pos} {Q : VF → Cs → Prop} (hA : A.handled = none)
    (h : GE c A cs (eval iter env) fun x cs1 => ∃ l, IterV c x l ∧ GF c A target body orelse env l cs1 Q)
    (hns : notSet iter = true := by kernel_rfl!) : GS c A cs (exec (.For target iter body orelse pos) env) Q :=
  fun W F s M => wpAny_For (hs := foldSet_of hns) (go (h W F s M) fun v s1 W1 x cs1 l1 r1 M1 ⟨l, it, k⟩ => it A W1 F cs1 s1 v _ _ hA M1 r1 fun I s2 M2 at2 fr =>
    codeAny_mono (k W1 F s2 I M2 at2 fr) fun r s' hr => by
      cases r with
      | ok f => exact Post.back l1 hr
      | error e => exact hr.elim)
end
end U

/-! ## U5 -/
namespace U
open PySem PyProof.Rows PySem.Calls

section
variable {c : Cx} {α β : Type} {A : Around} {cs : Cs} {env : Env}

theorem Mdl.lendC {w : World} {ad : Nat → Addr} {s₀ s : Shared} {W F : Wd} {cs : Cs} {a : Addr} {x : O} (M : Mdl w ad s₀ W F ((a, x) :: cs) s) :
    ∃ o, s.heap.get? a = some o ∧ ORel w ad W o x ∧ W a = none ∧ F a = none ∧ Mdl w ad s₀ W (F.put a o) cs s := by
  obtain ⟨o, h1, h2, h3, h4⟩ := M.own _ List.mem_cons_self
  have hn := M.nodup
  rw [List.map_cons, List.nodup_cons] at hn
  exact ⟨o, h1, h2, h3, h4, (M.drop (List.sublist_cons_self _ _)).lend h3 (fun p hp e => hn.1 (by show a ∈ _; rw [← e]; exact List.mem_map_of_mem (f := (·.1)) hp)) h1⟩

theorem put_none {F : Wd} {a : Addr} {o : Obj} (hF : F a = none) : ∀ b o', F b = some o' → (F.put a o) b = some o' := fun b o' e => by
  unfold Wd.put
  by_cases q : b = a
  · rw [q, hF] at e; cases e
  · rw [if_neg q]; exact e
theorem put_self {F : Wd} {a : Addr} {o : Obj} : (F.put a o) a = some o := by unfold Wd.put; rw [if_pos rfl]

theorem Mdl.reclaim {w : World} {ad : Nat → Addr} {s₀ s : Shared} {W F : Wd} {cs : Cs} {a : Addr} {o : Obj} {x : O} (M : Mdl w ad s₀ W (F.put a o) cs s) (hF : F a = none) (h : ORel w ad W o x) :
    Mdl w ad s₀ W F ((a, x) :: cs) s := by
  have M' := M.unlend (put_none hF)
  refine ⟨M'.rest, M'.hw, M'.hf, M'.base, M'.wf, ?_, ?_⟩
  · intro p hp
    rcases List.mem_cons.mp hp with rfl | hp
    · exact ⟨o, M.hf _ _ put_self, h, M.wf _ _ put_self, hF⟩
    · exact M'.own p hp
  · rw [List.map_cons, List.nodup_cons]
    refine ⟨fun hm => ?_, M'.nodup⟩
    obtain ⟨p, hp, e⟩ := List.mem_map.mp hm
    obtain ⟨_, _, _, _, hf⟩ := M.own p hp
    rw [e] at hf
    rw [put_self] at hf; cases hf

theorem Mdl.freeC {w : World} {ad : Nat → Addr} {s₀ s : Shared} {W F : Wd} {cs : Cs} {a : Addr} {x : O} (M : Mdl w ad s₀ W F ((a, x) :: cs) s) : W a = none ∧ F a = none ∧ ∀ p ∈ cs, p.1 ≠ a := by
  obtain ⟨o, h1, h2, h3, h4⟩ := M.own _ List.mem_cons_self
  have hn := M.nodup
  rw [List.map_cons, List.nodup_cons] at hn
  exact ⟨h3, h4, fun p hp e => hn.1 (by show a ∈ _; rw [← e]; exact List.mem_map_of_mem (f := (·.1)) hp)⟩

abbrev testsOf (ifs : List Expr) (env : Env) : Sem Bool := forIn ifs true fun c r => if r = true then do let ok ← isTrue c env (eval c env); pure (ForInStep.yield ok) else pure (ForInStep.yield r)

theorem T_nil {Q : Bool → Cs → Prop} (q : Q true cs) : GB c A cs (testsOf [] env) Q := fun W F s M => by
  show wpAny _ A (forIn ([] : List Expr) true _) _ _ _
  rw [List.forIn_nil]; exact wpAny_pure (here rfl M q)
theorem T_one {t : Expr} {Q : Bool → Cs → Prop} (h : GB c A cs (isTrue t env (eval t env)) Q) : GB c A cs (testsOf [t] env) Q := fun W F s M => by
  show wpAny _ A (forIn [t] true _) _ _ _
  rw [List.forIn_cons]
  refine wpAny_bind ?_
  rw [if_pos rfl]
  refine wpAny_bind (wpNoE (h W F s M) fun b s1 h1 => wpAny_pure ?_)
  show wpAny _ A (forIn ([] : List Expr) b _) _ _ _
  rw [List.forIn_nil]; exact wpAny_pure h1

/-- what holds between two turns of a list comprehension -/
inductive CompI (c : Cx) (W F : Wd) (cs : Cs) (x : Str) (D C I : Addr) (f : V → V) (p : V → Bool) (l : List V) : Nat → Shared → Prop
  | mk (W1 : Wd) (don rest : List V) (o1 : Option V) (s' : Shared) (lW : Le W W1) (M' : MdlC c W1 F ((C, .frame [(x, o1)]) :: (D, .list ((don.filter p).map f)) :: cs) s') (at' : ItAt c W1 s'.heap I rest)
    (fr' : Free W1 F ((C, .frame [(x, o1)]) :: (D, .list ((don.filter p).map f)) :: cs) I) (hdr : don ++ rest = l) : CompI c W F cs x D C I f p l (rest.length + 1) s'

/-- the inside of a comprehension, from its source on -/
theorem compCoreC {elt iter : Expr} {x : Str} {px pos : Pos} {ifs : List Expr} {scope : Scope} {cl : List (Str × Addr)} {x0 : V} {l : List V} (f : V → V) (p : V → Bool) (hA : A.handled = none)
    (hcell : ∀ y ∈ scope.names, y.2 ≠ .cell) (hkind : scope.kind = .function) (hx : scope.names.lookup x = some .local)
    (hlen : l.length ≤ sizeLine) (it : IterV c x0 l)
    (hT : ∀ C y, y ∈ l → GB c A ((C, .frame [(x, some y)]) :: cs) (testsOf ifs (compEnvC scope cl C env)) fun b cs' => b = p y ∧ cs' = (C, .frame [(x, some y)]) :: cs)
    (hE : ∀ C y, y ∈ l → p y = true → GE c A ((C, .frame [(x, some y)]) :: cs) (eval elt (compEnvC scope cl C env)) fun z cs' => z = f y ∧ cs' = (C, .frame [(x, some y)]) :: cs)
    {W F : Wd} {s : Shared} {v : Value} (M : MdlC c W F cs s) (rv : RV c W v x0) {X : Value → Addr → Result → Shared → Prop} {E : Value → Shared → Prop}
    (hX : ∀ W1 D C loc s1, Le W W1 → MdlC c W1 F ((D, .list ((l.filter p).map f)) :: (C, .frame loc) :: cs) s1 → X (.ref D) C (.ok .next) s1) :
    wpAny (model c.prog c.w) A (pyIter v) (fun itv s₂ => wpAny (model c.prog c.w) A (newList []) (fun acc s₃ =>
      wpAny (model c.prog c.w) A (newFunctionEnv scope env.globals cl [] env.qual none .none (some env)) (fun cenv s₄ =>
        codeAny (model c.prog c.w) A (.compStart (.ListComp elt [⟨.Name x px, iter, ifs, 0⟩] scope pos) 0 itv acc { cenv with scope := relabel scope env }) (X acc cenv.locals) s₄) E s₃) E s₂) E s := by
  refine it A W F cs s v _ _ hA M rv fun I s2 M2 at2 fr2 => ?_
  -- the list
  refine wpAny_newObj_type ?_
  have M3 := M2.pushC { cls := .type "list", dict := none, data := .seq ([] : List Value).toArray } (x := .list []) (.list [] 0 [] .nil)
  have fI3 : Free W F ((s2.heap.objs.size, O.list []) :: cs) I := by
    refine ⟨fr2.w, fr2.f, fun p hp => ?_⟩
    rcases List.mem_cons.mp hp with rfl | hp
    · obtain ⟨fp, n, P, St, i, wk, st, hn, hP, hfp, hI⟩ := at2
      obtain ⟨o, ho, _⟩ := hI _ _ st
      exact Nat.ne_of_gt (Heap.lt_size ho)
    · exact fr2.c p hp
  have at3 : ItAt c W (s2.heap.push { cls := .type "list", dict := none, data := .seq ([] : List Value).toArray }) I l := by
    obtain ⟨fp, n, P, St, i, wk, st, hn, hP, hfp, hI⟩ := at2
    exact ⟨fp, n, P, St, i, wk, (wk A hA).frame _ _ _ st fun b hb o e => Heap.get?_push_of_some _ e, hn, hP, hfp, hI⟩
  generalize hs3 : ({ s2 with heap := s2.heap.push { cls := .type "list", dict := none, data := .seq ([] : List Value).toArray } } : Shared) = s3 at M3 ⊢
  have hh3 : s3.heap = s2.heap.push { cls := .type "list", dict := none, data := .seq ([] : List Value).toArray } := by rw [← hs3]
  rw [← hh3] at at3
  generalize s2.heap.objs.size = D at M3 fI3 ⊢
  -- the block's names
  refine wpAny_newFunctionEnv hcell (by intro y hy; simp at hy) (fun h₁ hns₁ hsb₁ => ?_) hkind
  have hdict : ORel c.w c.ad W { cls := .type "dict", data := .dict #[] } (.frame [(x, none)]) :=
    .frame _ #[] 0 _ rfl (fun e he => by simp at he) (by simp) (by simp)
  have M4 := M3.pushC { cls := .type "dict", data := .dict #[] } hdict
  have fI4 : I ≠ s3.heap.objs.size := by
    obtain ⟨fp, n, P, St, i, wk, st, hn, hP, hfp, hI⟩ := at3
    obtain ⟨o, ho, _⟩ := hI _ _ st
    exact Nat.ne_of_lt (Heap.lt_size ho)
  obtain ⟨o5, es5, ep5, ho5, hd5, hk5, hf5⟩ := hns₁
  have M5 := M4.upd (Upd.head _) hsb₁ ho5 (y := .frame [(x, none)]) (.frame o5 es5 ep5 _ hd5 hk5 (by simp) (by simp)) (s3.toks + ([] : List (Str × Value)).length)
  have at5 : ItAt c W h₁ I l := by
    obtain ⟨fp, n, P, St, i, wk, st, hn, hP, hfp, hI⟩ := at3
    refine ⟨fp, n, P, St, i, wk, (wk A hA).frame _ _ _ st fun b hb o e => ?_, hn, hP, hfp, hI⟩
    exact hsb₁.extBut b o (Nat.ne_of_lt (Heap.lt_size e)) (Heap.get?_push_of_some _ e)
  have fI5 : Free W F ((s3.heap.objs.size, O.frame [(x, none)]) :: (D, O.list []) :: cs) I := by
    refine ⟨fI3.w, fI3.f, fun p hp => ?_⟩
    rcases List.mem_cons.mp hp with rfl | hp
    · exact Ne.symm fI4
    · exact fI3.c p hp
  generalize s3.heap.objs.size = C at M5 fI5 ⊢
  generalize hs5 : ({ s3 with heap := h₁, toks := s3.toks + ([] : List (Str × Value)).length } : Shared) = s5 at M5 ⊢
  have hh5 : s5.heap = h₁ := by rw [← hs5]
  rw [← hh5] at at5
  show codeAny _ _ (.compStart (.ListComp elt [⟨.Name x px, iter, ifs, 0⟩] scope pos) 0 (.ref I) (.ref D) (compEnvC scope cl C env)) (X (.ref D) C) s5
  have loop : codeAny (model c.prog c.w) A (.compLoop (.ListComp elt [⟨.Name x px, iter, ifs, 0⟩] scope pos) 0 (.ref I) (.ref D) (compEnvC scope cl C env)) (X (.ref D) C) s5 := by
    refine codeAny_compLoop_tests (CompI c W F cs x D C I f p l) ?_ (l.length + 1) (.mk W [] l none _ (Le.refl W) M5 at5 fI5 rfl)
    intro k s' H
    cases H with | mk W1 don rest o1 _ lW M' at' fr' hdr =>
    cases rest with
    | nil =>
      obtain ⟨fp, n, P, St, i, wk, st, hn, hP, hfp, hI⟩ := at'
      have hi : n = i := by simpa using hn
      refine (wk A hA).done _ _ _ (hi ▸ st) fun h' tk hk => ?_
      have M6 := M'.step fr'.w fr'.f fr'.c (fun b o hb e => hk b o (by simp [hb]) e) tk
      have M7 := M6.perm (cs' := (D, .list ((don.filter p).map f)) :: (C, .frame [(x, o1)]) :: cs) (List.Perm.swap _ _ _)
      rw [List.append_nil] at hdr
      subst hdr
      exact hX _ D C _ _ lW M7
    | cons y rest =>
      obtain ⟨fp, n, P, St, i, wk, st, hn, hP, hfp, hI⟩ := at'
      rw [List.length_cons] at hn
      have hy : y ∈ l := by rw [← hdr]; simp
      refine (wk A hA).item i _ _ _ (by lia) st fun u h' tk pu st' hk => ?_
      have M6 := M'.step fr'.w fr'.f fr'.c (fun b o hb e => hk b o (by simp [hb]) e) tk
      obtain ⟨oI, hoI, _⟩ := hI _ _ st'
      have M7 := M6.lend fr'.w fr'.c hoI
      have ru : RV c W1 u y := hP 0 u y rfl pu
      refine wpAny_assign_Name (go (store (env := compEnvC scope cl C env) (Q := fun _ cs' => cs' = (C, .frame [(x, some y)]) :: (D, .list ((don.filter p).map f)) :: cs) M7 ru (Upd.head _) (LocPut.head _ _) rfl
        (lookup_relabel_local hx) (by simp [compEnvC, relabel, hkind])) fun _ s8 W8 _ cs8 l8 _ M8 e8 => ?_)
      subst e8
      -- the list to the others
      have M9 := M8.perm (cs' := (D, .list ((don.filter p).map f)) :: (C, .frame [(x, some y)]) :: cs) (List.Perm.swap _ _ _)
      obtain ⟨oD, hD1, hD2, hD3, hD4, M10⟩ := M9.lendC
      have hFD : F D = none := M'.own (D, .list ((don.filter p).map f)) (by simp) |>.choose_spec.2.2.2
      have hDI : D ≠ I := fr'.c (D, .list ((don.filter p).map f)) (by simp)
      refine go (hT C y hy W8 _ s8 M10) fun ok s11 W11 z cs11 l11 r11 M11 e11 => ?_
      obtain ⟨e11a, e11b⟩ := e11
      subst e11b
      have r11' : ok = p y := by rw [← e11a]; exact r11
      subst r11'
      -- back to the loop
      have back : ∀ (W12 : Wd) (s12 : Shared) (out : List V), Le W W12 → Le W1 W12 → MdlC c W12 (F.put I oI) ((C, .frame [(x, some y)]) :: (D, .list out) :: cs) s12 →
          out = (((don ++ [y]).filter p).map f) →
          ∃ m, m < (y :: rest).length + 1 ∧ CompI c W F cs x D C I f p l m s12 := by
        intro W12 s12 out lo lo1 M12 ho
        refine ⟨rest.length + 1, by simp, .mk W12 (don ++ [y]) rest (some y) _ lo ?_ ⟨fp, n, P, St, i + 1, wk, ?_, by lia, ?_, ?_, hI⟩ ⟨M12.wf _ _ put_self, fr'.f, fun p hp e => ?_⟩ (by rw [List.append_assoc]; exact hdr)⟩
        · rw [← ho]; exact M12.unlend (put_none fr'.f)
        · refine (wk A hA).frame _ _ _ st' fun b hb o' e => ?_
          rcases hfp b hb with rfl | ⟨o2, h2⟩
          · rw [hoI] at e; cases e; exact M12.hf _ _ put_self
          · have e2 := M6.hw _ _ h2
            rw [e2] at e; cases e
            exact M12.hw _ _ (lo1 _ _ h2)
        · intro j u y hy pu
          exact RV.mono lo1 (hP (j + 1) u y (by simpa using hy) (by rw [show i + (j + 1) = i + 1 + j by lia]; exact pu))
        · intro b hb
          rcases hfp b hb with rfl | ⟨o2, h2⟩
          · exact .inl rfl
          · exact .inr ⟨o2, lo1 _ _ h2⟩
        · rw [← ho] at hp
          obtain ⟨_, _, _, _, hf⟩ := M12.own p hp
          rw [e, put_self] at hf; cases hf
      have hFI : (F.put I oI) D = none := by unfold Wd.put; rw [if_neg hDI]; exact hFD
      cases hp : p y with
      | false =>
        simp only [Bool.false_eq_true, if_false]
        have M12 := (M11.reclaim hFI (hD2.mono c.w c.ad l11)).perm (cs' := (C, .frame [(x, some y)]) :: (D, .list ((don.filter p).map f)) :: cs) (List.Perm.swap _ _ _)
        exact back W11 s11 _ (lW.trans (l8.trans l11)) (l8.trans l11) M12 (by simp [List.filter_append, hp])
      | true =>
        simp only [if_true]
        refine go (hE C y hy hp W11 _ s11 M11) fun zv s13 W13 z cs13 l13 r13 M13 e13 => ?_
        obtain ⟨rfl, e13b⟩ := e13
        subst e13b
        have M14 := (M13.reclaim hFI ((hD2.mono c.w c.ad l11).mono c.w c.ad l13))
        obtain ⟨o14, h14, hr14, _⟩ := M14.own _ List.mem_cons_self
        cases hr14 with
        | list vs n _ r =>
          have hlen2 : vs.length ≤ sizeLine := by
            have e1 := RL.len r
            have e2 : ((don.filter p).map f).length ≤ don.length := by rw [List.length_map]; exact List.length_filter_le _ _
            have e3 : don.length ≤ l.length := by rw [← hdr]; simp
            lia
          refine wpAny_list_append_plain (items := vs.toArray) ⟨n, h14⟩ (fun h15 hpl hsb => ?_) (by simpa using hlen2)
          obtain ⟨n15, e15⟩ := hpl
          have e15' : h15.get? D = some (listObj (vs ++ [zv]) n15) := by rw [e15]; simp [listObj]
          have radd : ∀ {vs : List Value} {l : List V}, RL c W13 vs l → RL c W13 (vs ++ [zv]) (l ++ [f y]) := by
            intro vs l h
            induction vs generalizing l with
            | nil => cases h; exact .cons _ _ _ _ r13 .nil
            | cons v vs ih => cases h with
              | cons _ a _ l ra rs => exact .cons _ _ _ _ ra (ih rs)
          have M15 := M14.upd (Upd.head _) hsb e15' (y := .list ((don.filter p).map f ++ [f y])) (.list _ _ _ (radd r)) s13.toks
          have M16 := M15.perm (cs' := (C, .frame [(x, some y)]) :: (D, .list ((don.filter p).map f ++ [f y])) :: cs) (List.Perm.swap _ _ _)
          exact back W13 _ _ (lW.trans (l8.trans (l11.trans l13))) (l8.trans (l11.trans l13)) M16 (by simp [List.filter_append, hp])
  obtain ⟨fp, n, P, St, i, wk, st, hn, hP, hfp, hI⟩ := at5
  exact codeAny_compStart_list loop ((wk A hA).self i _ _ _ st loop)

theorem compCore {elt iter : Expr} {x : Str} {px pos : Pos} {ifs : List Expr} {scope : Scope} {cl : List (Str × Addr)} {x0 : V} {l : List V} (f : V → V) (p : V → Bool) (hA : A.handled = none)
    (hcell : ∀ y ∈ scope.names, y.2 ≠ .cell) (hkind : scope.kind = .function) (hx : scope.names.lookup x = some .local)
    (hlen : l.length ≤ sizeLine) (it : IterV c x0 l)
    (hT : ∀ C y, y ∈ l → GB c A ((C, .frame [(x, some y)]) :: cs) (testsOf ifs (compEnvC scope cl C env)) fun b cs' => b = p y ∧ cs' = (C, .frame [(x, some y)]) :: cs)
    (hE : ∀ C y, y ∈ l → p y = true → GE c A ((C, .frame [(x, some y)]) :: cs) (eval elt (compEnvC scope cl C env)) fun z cs' => z = f y ∧ cs' = (C, .frame [(x, some y)]) :: cs)
    {W F : Wd} {s : Shared} {v : Value} (M : MdlC c W F cs s) (rv : RV c W v x0) {X : Value → Addr → Result → Shared → Prop} {E : Value → Shared → Prop}
    (hX : ∀ W1 D C loc s1, Le W W1 → RV c W1 (.ref D) (.list ((l.filter p).map f)) → MdlC c W1 F ((C, .frame loc) :: cs) s1 → X (.ref D) C (.ok .next) s1) :
    wpAny (model c.prog c.w) A (pyIter v) (fun itv s₂ => wpAny (model c.prog c.w) A (newList []) (fun acc s₃ =>
      wpAny (model c.prog c.w) A (newFunctionEnv scope env.globals cl [] env.qual none .none (some env)) (fun cenv s₄ =>
        codeAny (model c.prog c.w) A (.compStart (.ListComp elt [⟨.Name x px, iter, ifs, 0⟩] scope pos) 0 itv acc { cenv with scope := relabel scope env }) (X acc cenv.locals) s₄) E s₃) E s₂) E s := by
  refine compCoreC f p hA hcell hkind hx hlen it hT hE M rv fun W1 D C loc s1 l1 M1 => ?_
  obtain ⟨o, ho1, ho2, M8, l8⟩ := M1.freeze
  cases ho1 with
  | list vs n _ r => exact hX _ D C _ _ (l1.trans l8) (.list D vs n _ (by unfold Wd.put; rw [if_pos rfl]) (RL.mono l8 r)) M8

/-- what a list comprehension asks of its items -/
inductive CompH (c : Cx) (A : Around) (env : Env) (cs1 : Cs) (scope : Scope) (cl : List (Str × Addr)) (x : Str) (ifs : List Expr) (elt : Expr) (x0 : V) (R : List V → Prop) : Prop
  | mk (l : List V) (f : V → V) (p : V → Bool) (it : IterV c x0 l) (hlen : l.length ≤ sizeLine)
    (hT : ∀ C y, y ∈ l → GB c A ((C, .frame [(x, some y)]) :: cs1) (testsOf ifs (compEnvC scope cl C env)) fun b cs' => b = p y ∧ cs' = (C, .frame [(x, some y)]) :: cs1)
    (hE : ∀ C y, y ∈ l → p y = true → GE c A ((C, .frame [(x, some y)]) :: cs1) (eval elt (compEnvC scope cl C env)) fun z cs' => z = f y ∧ cs' = (C, .frame [(x, some y)]) :: cs1)
    (q : R ((l.filter p).map f))

/-- the list may turn -/
theorem E_ListCompC {elt iter : Expr} {x : Str} {px pos : Pos} {ifs : List Expr} {scope : Scope} {cl : List (Str × Addr)} {Q : V → Cs → Prop} (hA : A.handled = none)
    (hclos : closureFor scope env = pure cl)
    (h : GE c A cs (eval iter env) fun x0 cs1 => CompH c A env cs1 scope cl x ifs elt x0 fun r => ∀ D, Q (.ref D) ((D, .list r) :: cs1))
    (hcell : ∀ y ∈ scope.names, y.2 ≠ .cell := by decide +kernel) (hkind : scope.kind = .function := by kernel_rfl!)
    (hnames : ∀ y ∈ scope.names, y.2 = .local → scope.names.lookup y.1 = some .local := by decide +kernel) (hx : scope.names.lookup x = some .local := by kernel_rfl!)
    (hns : notSet iter = true := by kernel_rfl!) :
    GE c A cs (eval (.ListComp elt [⟨.Name x px, iter, ifs, 0⟩] scope pos) env) Q := fun W F s M => by
  rw [eval_ListComp]
  refine wpAny_comprehension_free (use := none) rfl (foldSet_of hns) hclos hkind hnames (go (h W F s M) fun v s1 W1 x0 cs1 l1 r1 M1 ⟨l, f, p, it, hlen, hT, hE, q⟩ => ?_)
  refine compCoreC f p hA hcell hkind hx hlen it hT hE M1 r1 (X := fun acc C => compPost (model c.prog c.w) A NoE none (Post c W F (RV c) Q) acc C) fun W2 D C loc s2 l2 M2' => ?_
  have M2 := M2'.perm (List.Perm.swap _ _ _)
  obtain ⟨o, ho, hr, _⟩ := M2.own _ List.mem_cons_self
  obtain ⟨m, hn, _⟩ := frame_ns ho hr
  refine ⟨m, hn, fun h' hs' => Post.back l1 (Post.back l2 ?_)⟩
  obtain ⟨f1, f2, f3⟩ := M2.freeC
  exact here (.ref D) ((M2.drop (List.sublist_cons_self _ _)).step f1 f2 f3 (fun b o hb e => (hs'.2 b hb).trans e) s2.toks) (q D)

theorem E_ListComp {elt iter : Expr} {x : Str} {px pos : Pos} {ifs : List Expr} {scope : Scope} {cl : List (Str × Addr)} {Q : V → Cs → Prop} (hA : A.handled = none)
    (hclos : closureFor scope env = pure cl)
    (h : GE c A cs (eval iter env) fun x0 cs1 => CompH c A env cs1 scope cl x ifs elt x0 fun r => Q (.list r) cs1)
    (hcell : ∀ y ∈ scope.names, y.2 ≠ .cell := by decide +kernel) (hkind : scope.kind = .function := by kernel_rfl!)
    (hnames : ∀ y ∈ scope.names, y.2 = .local → scope.names.lookup y.1 = some .local := by decide +kernel) (hx : scope.names.lookup x = some .local := by kernel_rfl!)
    (hns : notSet iter = true := by kernel_rfl!) :
    GE c A cs (eval (.ListComp elt [⟨.Name x px, iter, ifs, 0⟩] scope pos) env) Q := fun W F s M => by
  rw [eval_ListComp]
  refine wpAny_comprehension_free (use := none) rfl (foldSet_of hns) hclos hkind hnames (go (h W F s M) fun v s1 W1 x0 cs1 l1 r1 M1 ⟨l, f, p, it, hlen, hT, hE, q⟩ => ?_)
  refine compCore f p hA hcell hkind hx hlen it hT hE M1 r1 (X := fun acc C => compPost (model c.prog c.w) A NoE none (Post c W F (RV c) Q) acc C) fun W2 D C loc s2 l2 r2 M2 => ?_
  obtain ⟨o, ho, hr, _⟩ := M2.own _ List.mem_cons_self
  obtain ⟨m, hn, _⟩ := frame_ns ho hr
  refine ⟨m, hn, fun h' hs' => Post.back l1 (Post.back l2 ?_)⟩
  obtain ⟨f1, f2, f3⟩ := M2.freeC
  exact here r2 ((M2.drop (List.sublist_cons_self _ _)).step f1 f2 f3 (fun b o hb e => (hs'.2 b hb).trans e) s2.toks) q

/-- a name that takes a comprehension on its own line -/
theorem S_AssignComp {elt iter : Expr} {x y : Str} {px py pos spos : Pos} {ifs : List Expr} {scope : Scope} {cl : List (Str × Addr)} {Q : VF → Cs → Prop} (hA : A.handled = none)
    (hclos : closureFor scope env = pure cl)
    (h : GE c A cs (eval iter env) fun x0 cs1 => CompH c A env cs1 scope cl x ifs elt x0 fun r => ∃ loc loc' cs2, Upd env.locals (.frame loc) (.frame loc') cs1 cs2 ∧ LocPut y (.list r) loc loc' ∧ Q .next cs2)
    (hsw : swapsWith (.ListComp elt [⟨.Name x px, iter, ifs, 0⟩] scope pos) (some (.Name y py)) spos.line env = pure true := by with_unfolding_all rfl)
    (hcell : ∀ y ∈ scope.names, y.2 ≠ .cell := by decide +kernel) (hkind : scope.kind = .function := by kernel_rfl!)
    (hnames : ∀ y ∈ scope.names, y.2 = .local → scope.names.lookup y.1 = some .local := by decide +kernel) (hx : scope.names.lookup x = some .local := by kernel_rfl!)
    (hy : env.kindOf y = some .local := by kernel_rfl!) (hek : env.scope.kind = .function := by kernel_rfl!)
    (hns : notSet iter = true := by kernel_rfl!) :
    GS c A cs (exec (.Assign [.Name y py] (.ListComp elt [⟨.Name x px, iter, ifs, 0⟩] scope pos) spos) env) Q := fun W F s M => by
  rw [exec_Assign_Name_used _ _ _ _ hsw]
  refine wpAny_bind (wpAny_standAt (wpAny_bind ?_))
  show wpAny _ A (do let _ ← comprehension (.ListComp elt [⟨.Name x px, iter, ifs, 0⟩] scope pos) scope env _ (newList []) false (eval iter env) (some (assign (.Name y py) env))) _ _ s
  refine wpAny_bind (wpAny_comprehension_free (use := some (assign (.Name y py) env)) rfl (foldSet_of hns) hclos hkind hnames (go (h W F s M) fun v s1 W1 x0 cs1 l1 r1 M1 ⟨l, f, p, it, hlen, hT, hE, loc, loc', cs2, u, lp, q⟩ => ?_))
  refine compCore f p hA hcell hkind hx hlen it hT hE M1 r1 (X := fun acc C => compPost (model c.prog c.w) A NoE (some (assign (.Name y py) env)) _ acc C) fun W2 D C loc2 s2 l2 r2 M2 => ?_
  show wpAny _ A (assign (.Name y py) env (.ref D)) _ NoE s2
  refine wpAny_assign_Name (go (store (Q := fun _ cs' => cs' = (C, .frame loc2) :: cs2) M2 r2 (Upd.tail _ u) lp rfl hy hek) fun _ s3 W3 _ cs3 l3 _ M3 e3 => ?_)
  subst e3
  obtain ⟨o, ho, hr, _⟩ := M3.own _ List.mem_cons_self
  obtain ⟨m, hn, _⟩ := frame_ns ho hr
  refine ⟨m, hn, fun h' hs' => ?_⟩
  obtain ⟨f1, f2, f3⟩ := M3.freeC
  refine wpAny_pure (wpAny_pure ?_)
  exact Post.back l1 (Post.back l2 (Post.back l3 (here .next ((M3.drop (List.sublist_cons_self _ _)).step f1 f2 f3 (fun b o hb e => (hs'.2 b hb).trans e) s3.toks) q)))
end
end U

/-! ## U6 -/
namespace U
open PySem PyProof.Rows PySem.Calls

section
variable {c : Cx} {α β : Type} {A : Around} {cs : Cs} {env : Env}

/-! ### arguments -/
noncomputable def ArgsG (c : Cx) (A : Around) (env : Env) : List Expr → Cs → (List V → Cs → Prop) → Prop
  | [], cs, Q => Q [] cs
  | e :: r, cs, Q => GE c A cs (eval e env) fun x cs1 => ArgsG c A env r cs1 fun xs cs2 => Q (x :: xs) cs2

theorem A_nil {Q : List V → Cs → Prop} (q : Q [] cs) : ArgsG c A env [] cs Q := q
theorem starEach_cons {e : Expr} {r : List Expr} (h : noStar (e :: r) = true) : starEach (e :: r) env = (false, eval e env) :: starEach r env := by
  cases e <;> first | rfl | cases h
theorem noStar_tail {e : Expr} {r : List Expr} (h : noStar (e :: r) = true) : noStar r = true := by
  cases e <;> first | exact h | cases h
theorem plain_any {pos : Pos} : ∀ {r : List Expr}, noStar r = true → (backTo pos (starEach r env)).any (·.1) = false
  | [], _ => rfl
  | e :: r, h => by
    rw [starEach_cons h]
    show (false || (backTo pos (starEach r env)).any (·.1)) = false
    rw [plain_any (noStar_tail h)]; rfl

theorem ArgsG.run {pos : Pos} : ∀ {es : List Expr} {cs : Cs} {Q : List V → Cs → Prop}, noStar es = true → ArgsG c A env es cs Q → GL c A cs (spliced (backTo pos (starEach es env))) Q
  | [], cs, Q, _, h => fun W F s M => spliced_nil (here .nil M h)
  | e :: r, cs, Q, hs, h => fun W F s M => by
    rw [starEach_cons hs]
    refine spliced_cons (go (h W F s M) fun v s1 W1 x cs1 l1 r1 M1 k => ?_)
    exact wpNoE (ArgsG.run (noStar_tail hs) k W1 F s1 M1) fun vs s2 ⟨W2, xs, cs2, l2, r2, M2, q⟩ => Post.back l1 ⟨W2, x :: xs, cs2, l2, .cons _ _ _ _ (RV.mono l2 r1) r2, M2, q⟩

/-- the arguments as a call has them -/
theorem evalArgsG {f : Value} {pos : Pos} {es : List Expr} {Q : List V → Cs → Prop} (hs : noStar es = true) (h : ArgsG c A env es cs Q) {W F : Wd} {s : Shared} (M : MdlC c W F cs s)
    {X : Args → Shared → Prop} {E : Value → Shared → Prop} (k : ∀ vs s', Post c W F (RL c) Q vs s' → X ⟨vs, []⟩ s') :
    wpAny (model c.prog c.w) A (evalArgs f true (backTo pos (starEach es env)) []) X E s := by
  cases es with
  | nil => exact PyProof.Rows.evalArgs_none (k [] s (here .nil M h))
  | cons e r =>
    have := ArgsG.run (pos := pos) hs h W F s M
    rw [starEach_cons hs] at this ⊢
    exact evalArgs_plain (wpNoE this fun vs s' p => k vs s' p)

/-! ### what is called -/
abbrev Bi (c : Cx) (A : Around) (cs : Cs) (id : String) (xs : List V) (Q : V → Cs → Prop) : Prop := OpL c A cs (fun vs => call (.builtin id) vs) xs (RV c) Q
abbrev Ty (c : Cx) (A : Around) (cs : Cs) (n : String) (xs : List V) (Q : V → Cs → Prop) : Prop := OpL c A cs (fun vs => call (.type n) vs) xs (RV c) Q
abbrev Cal (c : Cx) (A : Around) (cs : Cs) (k : Nat) (xs : List V) (Q : V → Cs → Prop) : Prop := OpL c A cs (fun vs => call (.ref (c.ad k)) vs) xs (RV c) Q
noncomputable def CallV (c : Cx) (A : Around) (env : Env) (pos : Pos) (args : List Expr) (fv : V) (cs : Cs) (Q : V → Cs → Prop) : Prop := Op1 c A cs (fun f => callWith pos f [] (backTo pos (starEach args env)) []) fv (RV c) Q

theorem E_Call {f : Expr} {args : List Expr} {pos : Pos} {Q : V → Cs → Prop} (h : GE c A cs (eval f env) fun fv cs1 => CallV c A env pos args fv cs1 Q)
    (he : eval (.Call f args [] pos) env = (do callWith pos (← eval f env) [] (backTo pos (starEach args env)) (backToKw pos (keywordEach [] env))) := by with_unfolding_all rfl) :
    GE c A cs (eval (.Call f args [] pos) env) Q :=
  fun W F s M => Call_ (he := he) (go (h W F s M) fun v s1 W1 x cs1 l1 r1 M1 k => wpNoE (k W1 F s1 v M1 r1) fun r s2 h => h.back l1)

theorem CallV_fn {pos : Pos} {args : List Expr} {k : Nat} {Q : V → Cs → Prop} (h : ArgsG c A env args cs fun xs cs2 => Cal c A cs2 k xs Q) (hk : k ∈ fnIx := by decide) (hs : noStar args = true := by kernel_rfl!) :
    CallV c A env pos args (.fn k) cs Q := by
  intro W F s v M r
  cases r using Rel.fnE with
  | fn _ a e =>
    subst e
    obtain ⟨o, pm, code, doc, ho, hd, hcr⟩ := c.fns k (List.mem_append_left _ hk)
    refine callWith_function (o := o) (evalArgsG hs h M fun vs s1 ⟨W1, xs, cs1, l1, r1, M1, q⟩ => ⟨⟨M1.hw _ _ (M1.base _ _ ho), hd⟩, ?_⟩)
    exact wpNoE (q W1 F s1 vs M1 r1) fun r s2 h => h.back l1
theorem CallV_bi {pos : Pos} {args : List Expr} {id : String} {Q : V → Cs → Prop} (h : ArgsG c A env args cs fun xs cs2 => Bi c A cs2 id xs Q) (hs : noStar args = true := by kernel_rfl!) :
    CallV c A env pos args (.bi id) cs Q := by
  intro W F s v M r
  (first | cases r using Rel.intE | cases r using Rel.refE | cases r using RelL.nilE | cases r using Rel.strE | cases r using Rel.bytesE | cases r using Rel.noneE | cases r using Rel.boolE | cases r using Rel.listE | cases r using Rel.tupE | cases r using Rel.sdE | cases r using Rel.iddE | cases r using Rel.biE | cases r using Rel.tyE | cases r using Rel.rngE | cases r)
  exact callWith_builtin (plain_any hs) (evalArgsG hs h M fun vs s1 ⟨W1, xs, cs1, l1, r1, M1, q⟩ => wpNoE (q W1 F s1 vs M1 r1) fun r s2 h => h.back l1)
theorem CallV_ty {pos : Pos} {args : List Expr} {n : String} {Q : V → Cs → Prop} (h : ArgsG c A env args cs fun xs cs2 => Ty c A cs2 n xs Q) (hs : noStar args = true := by kernel_rfl!) :
    CallV c A env pos args (.ty n) cs Q := by
  intro W F s v M r
  (first | cases r using Rel.intE | cases r using Rel.refE | cases r using RelL.nilE | cases r using Rel.strE | cases r using Rel.bytesE | cases r using Rel.noneE | cases r using Rel.boolE | cases r using Rel.listE | cases r using Rel.tupE | cases r using Rel.sdE | cases r using Rel.iddE | cases r using Rel.biE | cases r using Rel.tyE | cases r using Rel.rngE | cases r)
  exact PySem.callWith_type (plain_any hs) (evalArgsG hs h M fun vs s1 ⟨W1, xs, cs1, l1, r1, M1, q⟩ => wpNoE (q W1 F s1 vs M1 r1) fun r s2 h => h.back l1)

/-! ### methods of built-in types -/
noncomputable def MethV (c : Cx) (A : Around) (env : Env) (pos : Pos) (name : Str) (args : List Expr) (ov : V) (cs : Cs) (Q : V → Cs → Prop) : Prop :=
  ∀ W F s v, MdlC c W F cs s → RV c W v ov → ∀ pl, wpAny (model c.prog c.w) A (getMethod v name pl) (fun fx s2 => wpAny (model c.prog c.w) A (callWith pos fx.1 fx.2 (backTo pos (starEach args env)) []) (Post c W F (RV c) Q) NoE s2) NoE s

theorem Call_late {o : Expr} {name : Str} {apos pos : Pos} {args : List Expr} {prog : Program} {w : World} {E : Value → Shared → Prop} {s : Shared} {Q : Value → Shared → Prop}
    (hbase : attributeBase o name env (eval o env) = eval o env)
    (hfew : ((backTo pos (starEach args env)).all (fun x => !x.1) && (backToKw pos (keywordEach [] env)).all (fun x => x.1.isSome)
      && decide (args.length + ([] : List Keyword).length + (if ([] : List Keyword).isEmpty then 0 else 1) < 30)) = true)
    (hline : (apos.endLine == pos.line) = true)
    (h : wpAny (model prog w) A (eval o env) (fun ov s₁ => ∀ pl, wpAny (model prog w) A (getMethod ov name pl) (fun fx s2 => wpAny (model prog w) A (callWith pos fx.1 fx.2 (backTo pos (starEach args env)) []) Q E s2) E s₁) E s) :
    wpAny (model prog w) A (eval (.Call (.Attribute o name apos) args [] pos) env) Q E s := by
  rw [arm_eval_Call, hbase]
  refine wpAny_bind (wpAny_mono h (fun ov s₁ h₁ => ?_) fun _ _ e => e)
  refine wpAny_bind (wpAny_standAt ?_)
  have hform : methodCallForm (args.length + ([] : List Keyword).length) (backTo pos (starEach args env)) (backToKw pos (keywordEach [] env)) = true := hfew
  have hpos : methodCallPos true o env apos pos = pure pos := by unfold methodCallPos; simp [hline]
  unfold methodCall
  rw [hform]
  exact wpAny_bind (wpAny_holding (wpAny_mono (h₁ _) (fun fx s2 h2 => wpAny_bind (wpAny_of_eq hpos h2)) fun _ _ e => e))

theorem fewOk {pos : Pos} {args : List Expr} (hs : noStar args = true) (hn : args.length < 30) : ((backTo pos (starEach args env)).all (fun x => !x.1) && (backToKw pos (keywordEach [] env)).all (fun x => x.1.isSome)
      && decide (args.length + ([] : List Keyword).length + (if ([] : List Keyword).isEmpty then 0 else 1) < 30)) = true := by
  have h1 : (backTo pos (starEach args env)).all (fun x => !x.1) = true := by
    have := plain_any (env := env) (pos := pos) hs
    rw [List.any_eq_false] at this
    rw [List.all_eq_true]
    intro x hx
    simpa using this x hx
  have e : backToKw pos (keywordEach [] env) = [] := rfl
  rw [h1, e]
  simp [hn]

theorem E_Meth {o : Expr} {name : Str} {apos pos : Pos} {args : List Expr} {Q : V → Cs → Prop} (h : GE c A cs (eval o env) fun ov cs1 => MethV c A env pos name args ov cs1 Q)
    (hbase : attributeBase o name env (eval o env) = eval o env := by with_unfolding_all rfl) (hline : (apos.endLine == pos.line) = true := by kernel_rfl!) (hs : noStar args = true := by kernel_rfl!) (hn : args.length < 30 := by decide) :
    GE c A cs (eval (.Call (.Attribute o name apos) args [] pos) env) Q :=
  fun W F s M => Call_late hbase (fewOk hs hn) hline (go (h W F s M) fun v s1 W1 x cs1 l1 r1 M1 k pl =>
    wpAny_mono (k W1 F s1 v M1 r1 pl) (fun fx s2 h => wpNoE h fun r s2 h => h.back l1) fun _ _ e => e.elim)

/-- the object is of the built-in type T, and bears no dict -/
noncomputable def OfT (c : Cx) (cs : Cs) (x : V) (T : String) : Prop := ∀ W F s v, MdlC c W F cs s → RV c W v x → s.TypeIs v T ∧ ∀ a, v = .ref a → ∃ ob, s.heap.get? a = some ob ∧ ob.dict = none

theorem OfT_str {l : List Nat} : OfT c cs (.str l) "str" := fun W F s v M r => by (first | cases r using Rel.intE | cases r using Rel.refE | cases r using RelL.nilE | cases r using Rel.strE | cases r using Rel.bytesE | cases r using Rel.noneE | cases r using Rel.boolE | cases r using Rel.listE | cases r using Rel.tupE | cases r using Rel.sdE | cases r using Rel.iddE | cases r using Rel.biE | cases r using Rel.tyE | cases r using Rel.rngE | cases r); exact ⟨typeIs_str _ _ _, fun _ e => nomatch e⟩
theorem OfT_bytes {l : List Nat} : OfT c cs (.bytes l) "bytes" := fun W F s v M r => by (first | cases r using Rel.intE | cases r using Rel.refE | cases r using RelL.nilE | cases r using Rel.strE | cases r using Rel.bytesE | cases r using Rel.noneE | cases r using Rel.boolE | cases r using Rel.listE | cases r using Rel.tupE | cases r using Rel.sdE | cases r using Rel.iddE | cases r using Rel.biE | cases r using Rel.tyE | cases r using Rel.rngE | cases r); exact ⟨PySem.W.typeIs_bytes _ _ _, fun _ e => nomatch e⟩
theorem OfT_sd {l : List (List Nat × V)} : OfT c cs (.sd l) "dict" := fun W F s v M r => by
  cases r using Rel.sdE with
  | sd a es n _ _ h r => exact ⟨⟨_, M.hw _ _ h, rfl⟩, fun b e => by cases e; exact ⟨_, M.hw _ _ h, rfl⟩⟩
theorem OfT_idd {l : List (Int × V)} : OfT c cs (.idd l) "dict" := fun W F s v M r => by
  cases r using Rel.iddE with
  | idd a es n _ _ h r => exact ⟨⟨_, M.hw _ _ h, rfl⟩, fun b e => by cases e; exact ⟨_, M.hw _ _ h, rfl⟩⟩
theorem OfT_rlist {a : Addr} {l : List V} (h : At a (.list l) cs) : OfT c cs (.ref a) "list" := fun W F s v M r => by
  obtain ⟨o, ho, hr, _⟩ := M.own _ h.mem
  (first | cases r using Rel.intE | cases r using Rel.refE | cases r using RelL.nilE | cases r using Rel.strE | cases r using Rel.bytesE | cases r using Rel.noneE | cases r using Rel.boolE | cases r using Rel.listE | cases r using Rel.tupE | cases r using Rel.sdE | cases r using Rel.iddE | cases r using Rel.biE | cases r using Rel.tyE | cases r using Rel.rngE | cases r)
  cases hr
  exact ⟨⟨_, ho, rfl⟩, fun b e => by cases e; exact ⟨_, ho, rfl⟩⟩
theorem OfT_rsd {a : Addr} {l : List (List Nat × V)} (h : At a (.sd l) cs) : OfT c cs (.ref a) "dict" := fun W F s v M r => by
  obtain ⟨o, ho, hr, _⟩ := M.own _ h.mem
  (first | cases r using Rel.intE | cases r using Rel.refE | cases r using RelL.nilE | cases r using Rel.strE | cases r using Rel.bytesE | cases r using Rel.noneE | cases r using Rel.boolE | cases r using Rel.listE | cases r using Rel.tupE | cases r using Rel.sdE | cases r using Rel.iddE | cases r using Rel.biE | cases r using Rel.tyE | cases r using Rel.rngE | cases r)
  cases hr
  exact ⟨⟨_, ho, rfl⟩, fun b e => by cases e; exact ⟨_, ho, rfl⟩⟩
/-- a built-in's call, the object ahead of the arguments -/
noncomputable def KMb (c : Cx) (A : Around) (id : String) (ov : V) (Q : V → Cs → Prop) (xs : List V) (cs2 : Cs) : Prop := Bi c A cs2 id (ov :: xs) Q
theorem MethV_of {T id : String} {pos : Pos} {name : Str} {args : List Expr} {ov : V} {Q : V → Cs → Prop} (pa : PlainAttrs T) (slot : Slot T name id) (ty : typeOf (.builtin id) = pure (.type "method_descriptor"))
    (ot : OfT c cs ov T) (h : ArgsG c A env args cs (KMb c A id ov Q)) (hs : noStar args = true := by kernel_rfl!) : MethV c A env pos name args ov cs Q := by
  intro W F s v M r pl
  obtain ⟨t1, t2⟩ := ot W F s v M r
  refine getMethod_builtin t1 pa slot ty t2 ?_
  exact callWith_builtin (plain_any hs) (evalArgsG hs h M fun vs s1 ⟨W1, xs, cs1, l1, r1, M1, q⟩ =>
    wpNoE (q W1 F s1 (v :: vs) M1 (.cons _ _ _ _ (RV.mono l1 r) r1)) fun r s2 h => h.back l1)

/-! ### the text's own defs -/
theorem lendAll {w : World} {ad : Nat → Addr} {s₀ s : Shared} {W : Wd} : ∀ (rest p : Cs) (F : Wd), Mdl w ad s₀ W F (p ++ rest) s →
    ∃ F', (∀ b o, F b = some o → F' b = some o) ∧ Mdl w ad s₀ W F' p s ∧ ∀ W' q s', Le W W' → Mdl w ad s₀ W' F' q s' → Mdl w ad s₀ W' F (q ++ rest) s'
  | [], p, F, M => ⟨F, fun _ _ e => e, by rw [List.append_nil] at M; exact M, fun W' q s' _ M' => by rw [List.append_nil]; exact M'⟩
  | (a, x) :: r, p, F, M => by
    have M1 : Mdl w ad s₀ W F ((a, x) :: (p ++ r)) s := M.perm List.perm_middle
    obtain ⟨o, h1, h2, h3, h4, M2⟩ := M1.lendC
    obtain ⟨F', up, M3, back⟩ := lendAll r p (F.put a o) M2
    refine ⟨F', fun b o' e => up _ _ (put_none h4 b o' e), M3, fun W' q s' l M' => ?_⟩
    exact ((back W' q s' l M').reclaim h4 (h2.mono w ad l)).perm List.perm_middle.symm

noncomputable def envK (k : Nat) (pm code doc : Value) (L a : Addr) : Env := callEnv (fdK k pm code doc) L a

inductive Take (a : Addr) (o : O) : Cs → Cs → Prop
  | head (r : Cs) : Take a o ((a, o) :: r) r
  | tail (p : Addr × O) {r r' : Cs} (h : Take a o r r') : Take a o (p :: r) (p :: r')
theorem Take.perm {a : Addr} {o : O} {cs cs' : Cs} (h : Take a o cs cs') : cs.Perm ((a, o) :: cs') := by
  induction h with
  | head r => exact List.Perm.refl _
  | tail p _ ih => exact (ih.cons p).trans (List.Perm.swap _ _ _)

/-- what a body's way out gives the caller -/
noncomputable def Out (L : Addr) (rest : Cs) (Q : V → Cs → Prop) : VF → Cs → Prop := fun f cs' => match f with
  | .ret r => (∃ out, out.Sublist cs' ∧ Q r (out ++ rest)) ∨ (∃ a l cs2 out, r = .ref a ∧ Take a (.list l) cs' cs2 ∧ out.Sublist cs2 ∧ Q (.list l) (out ++ rest))
  | .next => ∃ out, out.Sublist cs' ∧ Q .none (out ++ rest)
  | _ => False
theorem Out_fin {c : Cx} {L : Addr} {rest cs1 : Cs} {Q : V → Cs → Prop} {W W1 F F' : Wd} {f : Flow} {z : VF} {s1 : Shared} (h : Out L rest Q z cs1) (l1 : Le W W1) (r1 : RF c W1 f z) (M3 : MdlC c W1 F' cs1 s1)
    (back : ∀ W' q s', Le W W' → Mdl c.w c.ad c.s₀ W' F' q s' → Mdl c.w c.ad c.s₀ W' F (q ++ rest) s') (g : Flow → Value) (g1 : ∀ v, g (.ret v) = v) (g2 : g .next = .none) : Post c W F (RV c) Q (g f) s1 := by
  cases r1 with
  | next =>
    obtain ⟨out, hs, q⟩ := h
    rw [g2]
    exact ⟨W1, .none, _, l1, .none, back W1 out s1 l1 (M3.drop hs), q⟩
  | ret v x hv =>
    rw [g1]
    rcases h with ⟨out, hs, q⟩ | ⟨a, l, cs2, out, rfl, t, hs, q⟩
    · exact ⟨W1, x, _, l1, hv, back W1 out s1 l1 (M3.drop hs), q⟩
    · cases hv
      obtain ⟨o, ho1, ho2, M4, l4⟩ := (M3.perm t.perm).freeze
      cases ho1 with
      | list vs n _ r => exact ⟨_, .list l, _, l1.trans l4, .list a vs n _ (by unfold Wd.put; rw [if_pos rfl]) (RelL.mono c.w c.ad l4 r), back _ out s1 (l1.trans l4) (M4.drop hs), q⟩
  | brk => exact h.elim
  | cont => exact h.elim

noncomputable def frame0 (ps others : List Str) (args : List V) : List (Str × Option V) := ps.zip (args.map some) ++ others.map fun x => (x, none)

theorem frame0_mem {ps others : List Str} {args : List V} {x : Str} {v : V} (h : (x, some v) ∈ frame0 ps others args) : (x, v) ∈ ps.zip args := by
  rcases List.mem_append.mp h with h | h
  · rw [List.zip_map_right] at h
    obtain ⟨⟨a, b⟩, hm, e⟩ := List.mem_map.mp h
    simp only [Prod.map, id, Prod.mk.injEq, Option.some.injEq] at e
    obtain ⟨rfl, rfl⟩ := e
    exact hm
  · obtain ⟨a, _, e⟩ := List.mem_map.mp h
    cases e
theorem frame0_names {ps others : List Str} {args : List V} (h : ps.length = args.length) : (frame0 ps others args).map (·.1) = ps ++ others := by
  unfold frame0
  rw [List.map_append, List.map_map]
  congr 1
  · rw [List.map_fst_zip (by simp [h])]
  · induction others with
    | nil => rfl
    | cons a r ih => simp [ih]
theorem lookup_rev {x : Str} {v : V} {W : Wd} : ∀ {ps : List Str} {args : List V} {vs : List Value}, ps.Nodup → RL c W vs args → (x, v) ∈ ps.zip args → ∃ u, ((ps.zip vs).reverse).lookup x = some u ∧ RV c W u v := by
  intro ps
  induction ps with
  | nil => intro args vs _ _ h; simp at h
  | cons p ps ih =>
    intro args vs hn r h
    cases r with
    | nil => simp at h
    | cons u y vs l ru rs =>
      rw [List.nodup_cons] at hn
      simp only [List.zip_cons_cons, List.reverse_cons, List.lookup_append]
      rw [List.zip_cons_cons] at h
      rcases List.mem_cons.mp h with e | e
      · cases e
        have : (ps.zip vs).reverse.lookup x = none := by
          rw [List.lookup_eq_none_iff]
          intro q hq
          have := (List.of_mem_zip (List.mem_reverse.mp hq)).1
          simp only [bne_iff_ne, beq_eq_false_iff_ne, ne_eq]
          intro e; rw [e] at hn; exact hn.1 this
        rw [this]
        exact ⟨u, by simp, ru⟩
      · obtain ⟨u', h1, h2⟩ := ih hn.2 rs e
        exact ⟨u', by rw [h1]; rfl, h2⟩

theorem Cal_of {k : Nat} {ps others : List Str} {args : List V} {pass rest : Cs} {Q : V → Cs → Prop} {n m : Nat} (ok : Ok A n) (hm : m + 1 ≤ n)
    (hb : ∀ pm code doc L a, Ok (A.deeper (envK k pm code doc L a)) m → GS c (A.deeper (envK k pm code doc L a)) ((L, .frame (frame0 ps others args)) :: pass) (execs (fnBody k) (envK k pm code doc L a)) (Out L rest Q))
    (hbind : ∀ pm code doc (vs : List Value), vs.length = args.length → bindArgs (fdK k pm code doc) ⟨vs, []⟩ = pure (ps.zip vs))
    (hlen : ps.length = args.length := by kernel_rfl!) (hnd : (ps ++ others).Nodup := by decide +kernel)
    (hloc : ∀ x ∈ ps, (fnScope k).names.lookup x = some .local := by decide +kernel) (hcell : ∀ x ∈ (fnScope k).names, x.2 ≠ .cell := by decide +kernel)
    (hk : k ∈ fnIx2 := by decide) (h1 : (fnScope k).isCoroutine = false := by decide +kernel) (h2 : (fnScope k).isGenerator = false := by decide +kernel) (h3 : (fnScope k).kind = .function := by decide +kernel) :
    Cal c A (pass ++ rest) k args Q := by
  intro W F s vs M r
  obtain ⟨o, pm, code, doc, ho, hd, hcr⟩ := c.fns k hk
  obtain ⟨F', up, M1, back⟩ := lendAll rest pass F M
  refine wpAny_call (codeAny_call_def (fd := fdK k pm code doc) (binds := ps.zip vs) ok.room (M.hw _ _ (M.base _ _ ho)) hd (c.nolimit.keeps fun b o e => M.hw _ _ (M.base _ _ e))
    (hcr.keeps fun b o e => M.hw _ _ (M.base _ _ e)) rfl (.of_eq (hbind _ _ _ _ (RL.len r))) hcell (fun x hx => hloc _ (List.of_mem_zip hx).1) (fun h₀ hns keep => ?_) h1 h2 h3)
  have fr := M1.fresh
  have M2 : MdlC c W F' ((s.heap.objs.size, .frame (frame0 ps others args)) :: pass) { s with heap := h₀, toks := s.toks + (ps.zip vs).length } := by
    have Ms := M1.step fr.1 fr.2.1 fr.2.2 (fun b o _ e => keep b o e) (s.toks + (ps.zip vs).length)
    obtain ⟨oL, es, ep, hoL, hdL, hkL, hfL⟩ := hns
    refine ⟨Ms.rest, Ms.hw, Ms.hf, Ms.base, Ms.wf, fun p hp => ?_, ?_⟩
    · rcases List.mem_cons.mp hp with rfl | hp
      · refine ⟨oL, hoL, .frame oL es ep _ hdL hkL ?_ ?_, fr.1, fr.2.1⟩
        · rw [frame0_names hlen]; exact hnd
        · intro x v hx
          obtain ⟨u, hu, ru⟩ := lookup_rev (List.nodup_append.mp hnd).1 r (frame0_mem hx)
          exact ⟨u, by rw [hfL]; exact hu, ru⟩
      · exact Ms.own p hp
    · rw [List.map_cons, List.nodup_cons]
      refine ⟨fun hm => ?_, Ms.nodup⟩
      obtain ⟨p, hp, e⟩ := List.mem_map.mp hm
      exact fr.2.2 p hp e
  refine wpNoE (hb pm code doc s.heap.objs.size (c.ad k) (ok.deeper hm _) W F' _ M2) fun f s1 h => ?_
  obtain ⟨W1, z, cs1, l1, r1, M3, q⟩ := h
  exact Out_fin q l1 r1 M3 back (fun f => match f with | .ret v => v | _ => .none) (fun _ => rfl) rfl
end
end U

/-! ## U7 -/
namespace U
open PySem PyProof.Rows PySem.Calls

section
variable {c : Cx} {α β : Type} {A : Around} {cs : Cs} {env : Env} {i j : Int} {x y : List Nat} {Q : V → Cs → Prop} {QB : Bool → Cs → Prop}

/-! ### ints -/
theorem O_add (q : Q (.int (i + j)) cs) : Op2 c A cs (binaryOp .Add) (.int i) (.int j) (RV c) Q := fun W F s v u M r1 r2 => by
  (first | cases r1 using Rel.intE | cases r1 using Rel.refE | cases r1 using RelL.nilE | cases r1 using Rel.strE | cases r1 using Rel.bytesE | cases r1 using Rel.noneE | cases r1 using Rel.boolE | cases r1 using Rel.listE | cases r1 using Rel.tupE | cases r1 using Rel.sdE | cases r1 using Rel.iddE | cases r1 using Rel.biE | cases r1 using Rel.tyE | cases r1 using Rel.rngE | cases r1); (first | cases r2 using Rel.intE | cases r2 using Rel.refE | cases r2 using RelL.nilE | cases r2 using Rel.strE | cases r2 using Rel.bytesE | cases r2 using Rel.noneE | cases r2 using Rel.boolE | cases r2 using Rel.listE | cases r2 using Rel.tupE | cases r2 using Rel.sdE | cases r2 using Rel.iddE | cases r2 using Rel.biE | cases r2 using Rel.tyE | cases r2 using Rel.rngE | cases r2); exact PyProof.Rows.add_int (here (.int _ _) (M.toks _) q)
theorem O_sub (q : Q (.int (i - j)) cs) : Op2 c A cs (binaryOp .Sub) (.int i) (.int j) (RV c) Q := fun W F s v u M r1 r2 => by
  (first | cases r1 using Rel.intE | cases r1 using Rel.refE | cases r1 using RelL.nilE | cases r1 using Rel.strE | cases r1 using Rel.bytesE | cases r1 using Rel.noneE | cases r1 using Rel.boolE | cases r1 using Rel.listE | cases r1 using Rel.tupE | cases r1 using Rel.sdE | cases r1 using Rel.iddE | cases r1 using Rel.biE | cases r1 using Rel.tyE | cases r1 using Rel.rngE | cases r1); (first | cases r2 using Rel.intE | cases r2 using Rel.refE | cases r2 using RelL.nilE | cases r2 using Rel.strE | cases r2 using Rel.bytesE | cases r2 using Rel.noneE | cases r2 using Rel.boolE | cases r2 using Rel.listE | cases r2 using Rel.tupE | cases r2 using Rel.sdE | cases r2 using Rel.iddE | cases r2 using Rel.biE | cases r2 using Rel.tyE | cases r2 using Rel.rngE | cases r2); exact PyProof.Rows.sub_int (here (.int _ _) (M.toks _) q)
theorem O_mul (hm : IntMulOk i j) (q : Q (.int (i * j)) cs) : Op2 c A cs (binaryOp .Mult) (.int i) (.int j) (RV c) Q := fun W F s v u M r1 r2 => by
  (first | cases r1 using Rel.intE | cases r1 using Rel.refE | cases r1 using RelL.nilE | cases r1 using Rel.strE | cases r1 using Rel.bytesE | cases r1 using Rel.noneE | cases r1 using Rel.boolE | cases r1 using Rel.listE | cases r1 using Rel.tupE | cases r1 using Rel.sdE | cases r1 using Rel.iddE | cases r1 using Rel.biE | cases r1 using Rel.tyE | cases r1 using Rel.rngE | cases r1); (first | cases r2 using Rel.intE | cases r2 using Rel.refE | cases r2 using RelL.nilE | cases r2 using Rel.strE | cases r2 using Rel.bytesE | cases r2 using Rel.noneE | cases r2 using Rel.boolE | cases r2 using Rel.listE | cases r2 using Rel.tupE | cases r2 using Rel.sdE | cases r2 using Rel.iddE | cases r2 using Rel.biE | cases r2 using Rel.tyE | cases r2 using Rel.rngE | cases r2); exact PyProof.Rows.mul_int (hm := hm) (here (.int _ _) (M.toks _) q)
theorem O_mod (hj : 0 < j) (q : Q (.int (i % j)) cs) : Op2 c A cs (binaryOp .Mod) (.int i) (.int j) (RV c) Q := fun W F s v u M r1 r2 => by
  (first | cases r1 using Rel.intE | cases r1 using Rel.refE | cases r1 using RelL.nilE | cases r1 using Rel.strE | cases r1 using Rel.bytesE | cases r1 using Rel.noneE | cases r1 using Rel.boolE | cases r1 using Rel.listE | cases r1 using Rel.tupE | cases r1 using Rel.sdE | cases r1 using Rel.iddE | cases r1 using Rel.biE | cases r1 using Rel.tyE | cases r1 using Rel.rngE | cases r1); (first | cases r2 using Rel.intE | cases r2 using Rel.refE | cases r2 using RelL.nilE | cases r2 using Rel.strE | cases r2 using Rel.bytesE | cases r2 using Rel.noneE | cases r2 using Rel.boolE | cases r2 using Rel.listE | cases r2 using Rel.tupE | cases r2 using Rel.sdE | cases r2 using Rel.iddE | cases r2 using Rel.biE | cases r2 using Rel.tyE | cases r2 using Rel.rngE | cases r2); exact PyProof.Rows.mod_int (by lia) (by rw [Int.fmod_eq_emod_of_nonneg _ (by lia)]; exact here (.int _ _) (M.toks _) q)
theorem O_div (hj : 0 < j) (hp : Builtin.divisionGoesByPylong i j = false) (q : Q (.int (i / j)) cs) : Op2 c A cs (binaryOp .FloorDiv) (.int i) (.int j) (RV c) Q := fun W F s v u M r1 r2 => by
  (first | cases r1 using Rel.intE | cases r1 using Rel.refE | cases r1 using RelL.nilE | cases r1 using Rel.strE | cases r1 using Rel.bytesE | cases r1 using Rel.noneE | cases r1 using Rel.boolE | cases r1 using Rel.listE | cases r1 using Rel.tupE | cases r1 using Rel.sdE | cases r1 using Rel.iddE | cases r1 using Rel.biE | cases r1 using Rel.tyE | cases r1 using Rel.rngE | cases r1); (first | cases r2 using Rel.intE | cases r2 using Rel.refE | cases r2 using RelL.nilE | cases r2 using Rel.strE | cases r2 using Rel.bytesE | cases r2 using Rel.noneE | cases r2 using Rel.boolE | cases r2 using Rel.listE | cases r2 using Rel.tupE | cases r2 using Rel.sdE | cases r2 using Rel.iddE | cases r2 using Rel.biE | cases r2 using Rel.tyE | cases r2 using Rel.rngE | cases r2); exact floordiv_int (by lia) (by rw [Int.fdiv_eq_ediv_of_nonneg _ (by lia)]; exact here (.int _ _) (M.toks _) q) (.inl hp)
theorem O_shr (hj : 0 ≤ j) (q : Q (.int (i / 2 ^ j.toNat)) cs) : Op2 c A cs (binaryOp .RShift) (.int i) (.int j) (RV c) Q := fun W F s v u M r1 r2 => by
  (first | cases r1 using Rel.intE | cases r1 using Rel.refE | cases r1 using RelL.nilE | cases r1 using Rel.strE | cases r1 using Rel.bytesE | cases r1 using Rel.noneE | cases r1 using Rel.boolE | cases r1 using Rel.listE | cases r1 using Rel.tupE | cases r1 using Rel.sdE | cases r1 using Rel.iddE | cases r1 using Rel.biE | cases r1 using Rel.tyE | cases r1 using Rel.rngE | cases r1); (first | cases r2 using Rel.intE | cases r2 using Rel.refE | cases r2 using RelL.nilE | cases r2 using Rel.strE | cases r2 using Rel.bytesE | cases r2 using Rel.noneE | cases r2 using Rel.boolE | cases r2 using Rel.listE | cases r2 using Rel.tupE | cases r2 using Rel.sdE | cases r2 using Rel.iddE | cases r2 using Rel.biE | cases r2 using Rel.tyE | cases r2 using Rel.rngE | cases r2); exact rshift_int hj (by rw [Int.fdiv_eq_ediv_of_nonneg _ (Int.le_of_lt (Int.pow_pos (by decide)))]; exact here (.int _ _) (M.toks _) q)
theorem O_pow (h0 : 0 ≤ j) (h1 : j ≤ 1000000) (h2 : i.natAbs < 2 ^ 64) (q : Q (.int (i ^ j.toNat)) cs) : Op2 c A cs (binaryOp .Pow) (.int i) (.int j) (RV c) Q := fun W F s v u M r1 r2 => by
  (first | cases r1 using Rel.intE | cases r1 using Rel.refE | cases r1 using RelL.nilE | cases r1 using Rel.strE | cases r1 using Rel.bytesE | cases r1 using Rel.noneE | cases r1 using Rel.boolE | cases r1 using Rel.listE | cases r1 using Rel.tupE | cases r1 using Rel.sdE | cases r1 using Rel.iddE | cases r1 using Rel.biE | cases r1 using Rel.tyE | cases r1 using Rel.rngE | cases r1); (first | cases r2 using Rel.intE | cases r2 using Rel.refE | cases r2 using RelL.nilE | cases r2 using Rel.strE | cases r2 using Rel.bytesE | cases r2 using Rel.noneE | cases r2 using Rel.boolE | cases r2 using Rel.listE | cases r2 using Rel.tupE | cases r2 using Rel.sdE | cases r2 using Rel.iddE | cases r2 using Rel.biE | cases r2 using Rel.tyE | cases r2 using Rel.rngE | cases r2); exact pow_int_small h0 h1 h2 (here (.int _ _) (M.toks _) q)
theorem O_neg (q : Q (.int (-i)) cs) : Op1 c A cs (unaryOp .USub) (.int i) (RV c) Q := fun W F s v M r => by
  (first | cases r using Rel.intE | cases r using Rel.refE | cases r using RelL.nilE | cases r using Rel.strE | cases r using Rel.bytesE | cases r using Rel.noneE | cases r using Rel.boolE | cases r using Rel.listE | cases r using Rel.tupE | cases r using Rel.sdE | cases r using Rel.iddE | cases r using Rel.biE | cases r using Rel.tyE | cases r using Rel.rngE | cases r); exact PySem.P.neg_int (here (.int _ _) (M.toks _) q)

theorem C_lt (q : QB (decide (i < j)) cs) : Cmp c A cs .Lt (.int i) (.int j) QB := fun W F s v u M r1 r2 => by
  (first | cases r1 using Rel.intE | cases r1 using Rel.refE | cases r1 using RelL.nilE | cases r1 using Rel.strE | cases r1 using Rel.bytesE | cases r1 using Rel.noneE | cases r1 using Rel.boolE | cases r1 using Rel.listE | cases r1 using Rel.tupE | cases r1 using Rel.sdE | cases r1 using Rel.iddE | cases r1 using Rel.biE | cases r1 using Rel.tyE | cases r1 using Rel.rngE | cases r1); (first | cases r2 using Rel.intE | cases r2 using Rel.refE | cases r2 using RelL.nilE | cases r2 using Rel.strE | cases r2 using Rel.bytesE | cases r2 using Rel.noneE | cases r2 using Rel.boolE | cases r2 using Rel.listE | cases r2 using Rel.tupE | cases r2 using Rel.sdE | cases r2 using Rel.iddE | cases r2 using Rel.biE | cases r2 using Rel.tyE | cases r2 using Rel.rngE | cases r2); exact PyProof.Rows.lt_int (here (.bool _) M ⟨_, rfl, q⟩)
theorem C_gt (q : QB (decide (j < i)) cs) : Cmp c A cs .Gt (.int i) (.int j) QB := fun W F s v u M r1 r2 => by
  (first | cases r1 using Rel.intE | cases r1 using Rel.refE | cases r1 using RelL.nilE | cases r1 using Rel.strE | cases r1 using Rel.bytesE | cases r1 using Rel.noneE | cases r1 using Rel.boolE | cases r1 using Rel.listE | cases r1 using Rel.tupE | cases r1 using Rel.sdE | cases r1 using Rel.iddE | cases r1 using Rel.biE | cases r1 using Rel.tyE | cases r1 using Rel.rngE | cases r1); (first | cases r2 using Rel.intE | cases r2 using Rel.refE | cases r2 using RelL.nilE | cases r2 using Rel.strE | cases r2 using Rel.bytesE | cases r2 using Rel.noneE | cases r2 using Rel.boolE | cases r2 using Rel.listE | cases r2 using Rel.tupE | cases r2 using Rel.sdE | cases r2 using Rel.iddE | cases r2 using Rel.biE | cases r2 using Rel.tyE | cases r2 using Rel.rngE | cases r2); exact PyProof.Rows.gt_int (here (.bool _) M ⟨_, rfl, q⟩)
theorem C_le (q : QB (decide (i ≤ j)) cs) : Cmp c A cs .LtE (.int i) (.int j) QB := fun W F s v u M r1 r2 => by
  (first | cases r1 using Rel.intE | cases r1 using Rel.refE | cases r1 using RelL.nilE | cases r1 using Rel.strE | cases r1 using Rel.bytesE | cases r1 using Rel.noneE | cases r1 using Rel.boolE | cases r1 using Rel.listE | cases r1 using Rel.tupE | cases r1 using Rel.sdE | cases r1 using Rel.iddE | cases r1 using Rel.biE | cases r1 using Rel.tyE | cases r1 using Rel.rngE | cases r1); (first | cases r2 using Rel.intE | cases r2 using Rel.refE | cases r2 using RelL.nilE | cases r2 using Rel.strE | cases r2 using Rel.bytesE | cases r2 using Rel.noneE | cases r2 using Rel.boolE | cases r2 using Rel.listE | cases r2 using Rel.tupE | cases r2 using Rel.sdE | cases r2 using Rel.iddE | cases r2 using Rel.biE | cases r2 using Rel.tyE | cases r2 using Rel.rngE | cases r2); exact PyProof.Rows.le_int (here (.bool _) M ⟨_, rfl, q⟩)
theorem C_ge (q : QB (decide (j ≤ i)) cs) : Cmp c A cs .GtE (.int i) (.int j) QB := fun W F s v u M r1 r2 => by
  (first | cases r1 using Rel.intE | cases r1 using Rel.refE | cases r1 using RelL.nilE | cases r1 using Rel.strE | cases r1 using Rel.bytesE | cases r1 using Rel.noneE | cases r1 using Rel.boolE | cases r1 using Rel.listE | cases r1 using Rel.tupE | cases r1 using Rel.sdE | cases r1 using Rel.iddE | cases r1 using Rel.biE | cases r1 using Rel.tyE | cases r1 using Rel.rngE | cases r1); (first | cases r2 using Rel.intE | cases r2 using Rel.refE | cases r2 using RelL.nilE | cases r2 using Rel.strE | cases r2 using Rel.bytesE | cases r2 using Rel.noneE | cases r2 using Rel.boolE | cases r2 using Rel.listE | cases r2 using Rel.tupE | cases r2 using Rel.sdE | cases r2 using Rel.iddE | cases r2 using Rel.biE | cases r2 using Rel.tyE | cases r2 using Rel.rngE | cases r2); exact PyProof.Rows.ge_int (here (.bool _) M ⟨_, rfl, q⟩)
theorem C_eq (q : QB (decide (i = j)) cs) : Cmp c A cs .Eq (.int i) (.int j) QB := fun W F s v u M r1 r2 => by
  (first | cases r1 using Rel.intE | cases r1 using Rel.refE | cases r1 using RelL.nilE | cases r1 using Rel.strE | cases r1 using Rel.bytesE | cases r1 using Rel.noneE | cases r1 using Rel.boolE | cases r1 using Rel.listE | cases r1 using Rel.tupE | cases r1 using Rel.sdE | cases r1 using Rel.iddE | cases r1 using Rel.biE | cases r1 using Rel.tyE | cases r1 using Rel.rngE | cases r1); (first | cases r2 using Rel.intE | cases r2 using Rel.refE | cases r2 using RelL.nilE | cases r2 using Rel.strE | cases r2 using Rel.bytesE | cases r2 using Rel.noneE | cases r2 using Rel.boolE | cases r2 using Rel.listE | cases r2 using Rel.tupE | cases r2 using Rel.sdE | cases r2 using Rel.iddE | cases r2 using Rel.biE | cases r2 using Rel.tyE | cases r2 using Rel.rngE | cases r2); exact PyProof.Rows.eq_int (here (.bool _) M ⟨_, rfl, by rw [show (i == j) = decide (i = j) from rfl]; exact q⟩)
theorem C_ne (q : QB (decide (i ≠ j)) cs) : Cmp c A cs .NotEq (.int i) (.int j) QB := fun W F s v u M r1 r2 => by
  (first | cases r1 using Rel.intE | cases r1 using Rel.refE | cases r1 using RelL.nilE | cases r1 using Rel.strE | cases r1 using Rel.bytesE | cases r1 using Rel.noneE | cases r1 using Rel.boolE | cases r1 using Rel.listE | cases r1 using Rel.tupE | cases r1 using Rel.sdE | cases r1 using Rel.iddE | cases r1 using Rel.biE | cases r1 using Rel.tyE | cases r1 using Rel.rngE | cases r1); (first | cases r2 using Rel.intE | cases r2 using Rel.refE | cases r2 using RelL.nilE | cases r2 using Rel.strE | cases r2 using Rel.bytesE | cases r2 using Rel.noneE | cases r2 using Rel.boolE | cases r2 using Rel.listE | cases r2 using Rel.tupE | cases r2 using Rel.sdE | cases r2 using Rel.iddE | cases r2 using Rel.biE | cases r2 using Rel.tyE | cases r2 using Rel.rngE | cases r2); exact PyProof.Rows.ne_int (here (.bool _) M ⟨_, rfl, by rw [show (i != j) = decide (i ≠ j) by rw [bne, decide_not]; rfl]; exact q⟩)

end
end U

/-! ## U8 -/
namespace U
open PySem PyProof.Rows PySem.Calls

theorem sizeL : sizeLine = 16777216 := sizeLine_eq

section
variable {c : Cx} {α β : Type} {A : Around} {cs : Cs} {env : Env} {i j : Int} {x y : List Nat} {Q : V → Cs → Prop} {QB : Bool → Cs → Prop}

/-! ### texts -/
theorem strEq {s t : Str} (h : s.cps.toList = t.cps.toList) : s = t := by
  cases s; cases t
  simp only [Str.mk.injEq]
  exact Array.toList_inj.mp h

theorem O_addS (hz : x.length + y.length ≤ 16777216) (q : Q (.str (x ++ y)) cs) : Op2 c A cs (binaryOp .Add) (.str x) (.str y) (RV c) Q := fun W F s v u M r1 r2 => by
  cases r1 using Rel.strE with
  | str a t _ e1 =>
    cases r2 using Rel.strE with
    | str b w _ e2 =>
      subst e1 e2
      refine P.add_str ?_
      split
      · rename_i h
        have : a.cps.toList = [] := by
          have h' : a.cps.size = 0 := by simpa [Str.length] using h
          exact List.eq_nil_of_length_eq_zero (by rw [Array.length_toList]; exact h')
        exact here (.str _ _ _ (by rw [this, List.nil_append])) M q
      · split
        · rename_i h
          have : b.cps.toList = [] := by
            have h' : b.cps.size = 0 := by simpa [Str.length] using h
            exact List.eq_nil_of_length_eq_zero (by rw [Array.length_toList]; exact h')
          exact here (.str _ _ _ (by rw [this, List.append_nil])) M q
        · refine ⟨?_, here (.str _ _ _ ?_) (M.toks _) q⟩
          · rw [sizeL]
            show (a.cps ++ b.cps).size ≤ _
            simpa using hz
          · show (a.cps ++ b.cps).toList = _
            simp

theorem O_mulS {a : Nat} (h0 : 0 ≤ i) (h1 : i ≤ 16777216) (q : Q (.str (List.replicate i.toNat a)) cs) : Op2 c A cs (binaryOp .Mult) (.str [a]) (.int i) (RV c) Q := fun W F s v u M r1 r2 => by
  cases r1 using Rel.strE with
  | str b t _ e1 =>
    cases r2 using Rel.intE with
    | int _ w =>
      have hb : b = ⟨#[a]⟩ := strEq e1
      subst hb
      refine SB.mul ?_ fun t' k => here (.str _ _ _ ?_) (M.toks _) q
      · refine ⟨by simp; lia, fun _ _ => ?_, fun _ _ => ?_⟩
        · intro h
          have h2 : (1 : Int) ≤ (2 ^ 63 - 1) / i := by
            rw [Int.le_ediv_iff_mul_le (by lia)]; lia
          have h3 : ((({ cps := #[a] } : Str).length : Nat) : Int) = 1 := rfl
          lia
        · have h3 : ({ cps := #[a] } : Str).length = 1 := rfl
          rw [h3]
          unfold Builtin.Str.tooLong
          rw [sizeL]
          simp
          lia
      · unfold Txt.mul
        split
        · rename_i h
          have : i.toNat = 0 := by lia
          rw [this]; rfl
        · split
          · rename_i h h2
            have h3 : ({ cps := #[a] } : Str).length = 1 := rfl
            rw [h3] at h2
            have : i = 1 := by simpa using h2
            subst this; rfl
          · show (((List.replicate i.toNat #[a]).foldl (· ++ ·) #[])).toList = _
            have : ∀ (n : Nat) (z : Array Nat), ((List.replicate n #[a]).foldl (· ++ ·) z).toList = z.toList ++ List.replicate n a := by
              intro n
              induction n with
              | zero => intro z; simp
              | succ n ih => intro z; rw [List.replicate_succ, List.foldl_cons, ih]; simp [List.replicate_succ]
            rw [this]; simp

theorem C_eqS (q : QB (decide (x = y)) cs) : Cmp c A cs .Eq (.str x) (.str y) QB := fun W F s v u M r1 r2 => by
  cases r1 using Rel.strE with
  | str a t _ e1 => cases r2 using Rel.strE with
    | str b w _ e2 => subst e1 e2; exact P.eq_str (here (.bool _) M ⟨_, rfl, by rw [show (a.cps.toList == b.cps.toList) = decide (a.cps.toList = b.cps.toList) from (by rw [Bool.eq_iff_iff]; simp)]; exact q⟩)
theorem C_neS (q : QB (decide (x ≠ y)) cs) : Cmp c A cs .NotEq (.str x) (.str y) QB := fun W F s v u M r1 r2 => by
  cases r1 using Rel.strE with
  | str a t _ e1 => cases r2 using Rel.strE with
    | str b w _ e2 => subst e1 e2; exact P.ne_str (here (.bool _) M ⟨_, rfl, by rw [show (a.cps.toList != b.cps.toList) = decide (a.cps.toList ≠ b.cps.toList) from (by rw [Bool.eq_iff_iff]; simp)]; exact q⟩)
theorem C_leS (q : QB (decide ¬ (y < x)) cs) : Cmp c A cs .LtE (.str x) (.str y) QB := fun W F s v u M r1 r2 => by
  cases r1 using Rel.strE with
  | str a t _ e1 => cases r2 using Rel.strE with
    | str b w _ e2 => subst e1 e2; exact P.le_str (here (.bool _) M ⟨_, rfl, by rw [decide_not] at q; exact q⟩)
theorem C_inS1 {a : Nat} (q : QB (decide (a ∈ x)) cs) : Cmp c A cs .In (.str [a]) (.str x) QB := fun W F s v u M r1 r2 => by
  cases r1 using Rel.strE with
  | str b t _ e1 => cases r2 using Rel.strE with
    | str z w _ e2 =>
      have hb : b = ⟨#[a]⟩ := strEq e1
      subst hb e2
      refine P.in_str (here (.bool _) M ⟨_, rfl, ?_⟩)
      have : (!(Builtin.Str.occurrences z ⟨#[a]⟩ 0 z.length 1).isEmpty) = decide (a ∈ z.cps.toList) := StrLaws.found_one z a
      rw [this]; exact q

theorem L_str (hz : x.length ≤ 1099511627776) (q : Q (.int x.length) cs) : Bi c A cs "len" [.str x] Q := fun W F s vs M r => by
  cases r using RelL.consE with
  | cons v _ vs _ r rs =>
    (first | cases rs using Rel.intE | cases rs using Rel.refE | cases rs using RelL.nilE | cases rs using Rel.strE | cases rs using Rel.bytesE | cases rs using Rel.noneE | cases rs using Rel.boolE | cases rs using Rel.listE | cases rs using Rel.tupE | cases rs using Rel.sdE | cases rs using Rel.iddE | cases rs using Rel.biE | cases rs using Rel.tyE | cases rs using Rel.rngE | cases rs)
    cases r using Rel.strE with
    | str a t _ e =>
      subst e
      refine P.len_str (by show ¬ ((a.cps.size : Nat) : Int) ≥ _; simp at hz; lia) (here ?_ (M.toks _) q)
      have : ((a.length : Nat) : Int) = (a.cps.toList.length : Nat) := by simp [Str.length]
      rw [this]; exact .int _ _
theorem L_bytes (hz : x.length ≤ 1099511627776) (q : Q (.int x.length) cs) : Bi c A cs "len" [.bytes x] Q := fun W F s vs M r => by
  cases r using RelL.consE with
  | cons v _ vs _ r rs =>
    (first | cases rs using Rel.intE | cases rs using Rel.refE | cases rs using RelL.nilE | cases rs using Rel.strE | cases rs using Rel.bytesE | cases rs using Rel.noneE | cases rs using Rel.boolE | cases rs using Rel.listE | cases rs using Rel.tupE | cases rs using Rel.sdE | cases rs using Rel.iddE | cases rs using Rel.biE | cases rs using Rel.tyE | cases rs using Rel.rngE | cases rs)
    cases r using Rel.bytesE with
    | bytes a t _ e =>
      subst e
      refine PySem.W.len_bytes (by simpa using hz) (here ?_ (M.toks _) q)
      have : ((a.size : Nat) : Int) = ((a.toList.map UInt8.toNat).length : Nat) := by simp
      rw [this]; exact .int _ _
theorem L_list {l : List V} (hz : l.length ≤ 1099511627776) (q : Q (.int l.length) cs) : Bi c A cs "len" [.list l] Q := fun W F s vs M r => by
  cases r using RelL.consE with
  | cons v _ vs _ r rs =>
    (first | cases rs using Rel.intE | cases rs using Rel.refE | cases rs using RelL.nilE | cases rs using Rel.strE | cases rs using Rel.bytesE | cases rs using Rel.noneE | cases rs using Rel.boolE | cases rs using Rel.listE | cases rs using Rel.tupE | cases rs using Rel.sdE | cases rs using Rel.iddE | cases rs using Rel.biE | cases rs using Rel.tyE | cases rs using Rel.rngE | cases rs)
    cases r using Rel.listE with
    | list a us n _ h r =>
      have e := RL.len r
      refine len_list (items := us.toArray) ⟨_, M.hw _ _ h, rfl, n, rfl⟩ (by simp; lia) (here ?_ (M.toks _) q)
      rw [show ((us.toArray.size : Nat) : Int) = (l.length : Nat) by simp [e]]; exact .int _ _
theorem L_rlist {a : Addr} {l : List V} (at' : At a (.list l) cs) (hz : l.length ≤ 1099511627776) (q : Q (.int l.length) cs) : Bi c A cs "len" [.ref a] Q := fun W F s vs M r => by
  cases r using RelL.consE with
  | cons v _ vs _ r rs =>
    (first | cases rs using Rel.intE | cases rs using Rel.refE | cases rs using RelL.nilE | cases rs using Rel.strE | cases rs using Rel.bytesE | cases rs using Rel.noneE | cases rs using Rel.boolE | cases rs using Rel.listE | cases rs using Rel.tupE | cases rs using Rel.sdE | cases rs using Rel.iddE | cases rs using Rel.biE | cases rs using Rel.tyE | cases rs using Rel.rngE | cases rs)
    (first | cases r using Rel.intE | cases r using Rel.refE | cases r using RelL.nilE | cases r using Rel.strE | cases r using Rel.bytesE | cases r using Rel.noneE | cases r using Rel.boolE | cases r using Rel.listE | cases r using Rel.tupE | cases r using Rel.sdE | cases r using Rel.iddE | cases r using Rel.biE | cases r using Rel.tyE | cases r using Rel.rngE | cases r)
    obtain ⟨o, ho, hr, _⟩ := M.own _ at'.mem
    cases hr with
    | list us n _ r =>
      have e := RL.len r
      refine len_list (items := us.toArray) ⟨_, ho, rfl, n, rfl⟩ (by simp; lia) (here ?_ (M.toks _) q)
      rw [show ((us.toArray.size : Nat) : Int) = (l.length : Nat) by simp [e]]; exact .int _ _

theorem B_ord {a : Nat} (q : Q (.int a) cs) : Bi c A cs "ord" [.str [a]] Q := fun W F s vs M r => by
  cases r using RelL.consE with
  | cons v _ vs _ r rs =>
    (first | cases rs using Rel.intE | cases rs using Rel.refE | cases rs using RelL.nilE | cases rs using Rel.strE | cases rs using Rel.bytesE | cases rs using Rel.noneE | cases rs using Rel.boolE | cases rs using Rel.listE | cases rs using Rel.tupE | cases rs using Rel.sdE | cases rs using Rel.iddE | cases rs using Rel.biE | cases rs using Rel.tyE | cases rs using Rel.rngE | cases rs)
    cases r using Rel.strE with
    | str b t _ e =>
      have hb : b = ⟨#[a]⟩ := strEq e
      subst hb
      exact P.ord_of_char (here (.int _ _) (M.toks _) q)
theorem B_chr (h0 : 0 ≤ i) (h1 : i ≤ 0x10FFFF) (q : Q (.str [i.toNat]) cs) : Bi c A cs "chr" [.int i] Q := fun W F s vs M r => by
  cases r using RelL.consE with
  | cons v _ vs _ r rs =>
    (first | cases rs using Rel.intE | cases rs using Rel.refE | cases rs using RelL.nilE | cases rs using Rel.strE | cases rs using Rel.bytesE | cases rs using Rel.noneE | cases rs using Rel.boolE | cases rs using Rel.listE | cases rs using Rel.tupE | cases rs using Rel.sdE | cases rs using Rel.iddE | cases rs using Rel.biE | cases rs using Rel.tyE | cases rs using Rel.rngE | cases rs)
    (first | cases r using Rel.intE | cases r using Rel.refE | cases r using RelL.nilE | cases r using Rel.strE | cases r using Rel.bytesE | cases r using Rel.noneE | cases r using Rel.boolE | cases r using Rel.listE | cases r using Rel.tupE | cases r using Rel.sdE | cases r using Rel.iddE | cases r using Rel.biE | cases r using Rel.tyE | cases r using Rel.rngE | cases r)
    exact P.chr_of_int (by simp; lia) (here (.str _ _ _ rfl) (M.toks _) q)

theorem T_str (hz : x.length ≤ 1099511627776) (q : QB (decide (x ≠ [])) cs) : Tru c A cs (.str x) QB := fun W F s v M r => by
  cases r using Rel.strE with
  | str a t _ e =>
    subst e
    have hz' : a.length ≤ 1099511627776 := by simpa [Str.length] using hz
    refine P.truthy_str (by lia) (here ?_ (M.toks _) q)
    show ((a.length : Int) != 0) = _
    rw [Bool.eq_iff_iff]
    simp [Str.length]
theorem T_list {l : List V} (hz : l.length ≤ 1099511627776) (q : QB (decide (l ≠ [])) cs) : Tru c A cs (.list l) QB := fun W F s v M r => by
  cases r using Rel.listE with
  | list a us n _ h r =>
    have e := RL.len r
    refine wpAny_truthy_list (items := us.toArray) ⟨_, M.hw _ _ h, rfl, n, rfl⟩ (by simp; lia) (here ?_ (M.toks _) q)
    show (!us.toArray.isEmpty) = _
    cases us <;> cases l <;> simp_all
theorem T_rlist {a : Addr} {l : List V} (at' : At a (.list l) cs) (hz : l.length ≤ 1099511627776) (q : QB (decide (l ≠ [])) cs) : Tru c A cs (.ref a) QB := fun W F s v M r => by
  (first | cases r using Rel.intE | cases r using Rel.refE | cases r using RelL.nilE | cases r using Rel.strE | cases r using Rel.bytesE | cases r using Rel.noneE | cases r using Rel.boolE | cases r using Rel.listE | cases r using Rel.tupE | cases r using Rel.sdE | cases r using Rel.iddE | cases r using Rel.biE | cases r using Rel.tyE | cases r using Rel.rngE | cases r)
  obtain ⟨o, ho, hr, _⟩ := M.own _ at'.mem
  cases hr with
  | list us n _ r =>
    have e := RL.len r
    refine wpAny_truthy_list (items := us.toArray) ⟨_, ho, rfl, n, rfl⟩ (by simp; lia) (here ?_ (M.toks _) q)
    show (!us.toArray.isEmpty) = _
    cases us <;> cases l <;> simp_all

/-! ### items -/
abbrev Sub (c : Cx) (A : Around) (cs : Cs) (value slice : Expr) (x y : V) (Q : V → Cs → Prop) : Prop := Op2 c A cs (subscriptTail value slice) x y (RV c) Q
abbrev GI (c : Cx) (A : Around) (cs : Cs) (x y : V) (Q : V → Cs → Prop) : Prop := Op2 c A cs getItem x y (RV c) Q
theorem E_Sub {value slice : Expr} {pos : Pos} (h : GE c A cs (eval value env) fun x cs1 => GE c A cs1 (eval slice env) fun y cs2 => Sub c A cs2 value slice x y Q) : GE c A cs (eval (.Subscript value slice pos) env) Q :=
  fun W F s M => Subscript_ (go (h W F s M) fun a s1 W1 x cs1 l1 ra M1 k1 => go (k1 W1 F s1 M1) fun b s2 W2 y cs2 l2 rb M2 k2 =>
    wpNoE (k2 W2 F s2 a b M2 (RV.mono l2 ra) rb) fun r s3 h => (h.back l2).back l1)
theorem Sub_of {value slice : Expr} {x y : V} {T id : String} (hl : typeLookup (.type T) "__getitem__" = pure (some (.builtin id))) (ot : OfT c cs x T) (h : GI c A cs x y Q)
    (hs : ∀ o i, subscripted slice false o i = operate [o, i] (getItem o i) := by intro _ _; with_unfolding_all rfl) : Sub c A cs value slice x y Q :=
  fun W F s v u M r1 r2 => tail_any (ot W F s v M r1).1 hl (h W F s v u M r1 r2) (hs v u)

theorem seqIdx {i : Int} {n : Nat} (h : 0 ≤ i) (h1 : i < n) : seqIndex? i n = some i.toNat := by
  have : ¬ i < 0 := by lia
  simp [seqIndex?, this, h, h1]
theorem seqIdxNeg {i : Int} {n : Nat} (h : i < 0) (h1 : -(n : Int) ≤ i) : seqIndex? i n = some (i + n).toNat := by
  have : 0 ≤ i + n := by lia
  have h2 : i + n < n := by lia
  simp [seqIndex?, h, this, h2]

theorem GI_bytes (h0 : 0 ≤ i) (h1 : i < x.length) (hz : x.length ≤ 1099511627776) (q : Q (.int ((x.getD i.toNat 0 : Nat) : Int)) cs) : GI c A cs (.bytes x) (.int i) Q := fun W F s v u M r1 r2 => by
  cases r1 using Rel.bytesE with
  | bytes b t _ e =>
    subst e
    (first | cases r2 using Rel.intE | cases r2 using Rel.refE | cases r2 using RelL.nilE | cases r2 using Rel.strE | cases r2 using Rel.bytesE | cases r2 using Rel.noneE | cases r2 using Rel.boolE | cases r2 using Rel.listE | cases r2 using Rel.tupE | cases r2 using Rel.sdE | cases r2 using Rel.iddE | cases r2 using Rel.biE | cases r2 using Rel.tyE | cases r2 using Rel.rngE | cases r2)
    obtain ⟨b⟩ := b
    refine PySem.W.getItem_bytes (l := b) (by simpa using hz) h0 (by simpa using h1) (here ?_ (M.toks _) q)
    have hb : i.toNat < b.length := by simp at h1; lia
    have : ((List.map UInt8.toNat b).getD i.toNat 0) = (b.getD i.toNat 0).toNat := by simp [List.getD, hb]
    show Rel _ _ _ _ (V.int (((List.map UInt8.toNat b).getD i.toNat 0 : Nat) : Int))
    rw [this]; exact .int _ _
theorem GI_str {a : Nat} (h0 : -(x.length : Int) ≤ i) (h1 : i < x.length) (hz : x.length ≤ 1099511627776) (hx : (if i < 0 then x[(i + x.length).toNat]? else x[i.toNat]?) = some a) (q : Q (.str [a]) cs) :
    GI c A cs (.str x) (.int i) Q := fun W F s v u M r1 r2 => by
  cases r1 using Rel.strE with
  | str b t _ e =>
    subst e
    (first | cases r2 using Rel.intE | cases r2 using Rel.refE | cases r2 using RelL.nilE | cases r2 using Rel.strE | cases r2 using Rel.bytesE | cases r2 using Rel.noneE | cases r2 using Rel.boolE | cases r2 using Rel.listE | cases r2 using Rel.tupE | cases r2 using Rel.sdE | cases r2 using Rel.iddE | cases r2 using Rel.biE | cases r2 using Rel.tyE | cases r2 using Rel.rngE | cases r2)
    simp only [Array.length_toList] at h0 h1 hz hx
    refine P.getItem_str (c := a) (by simp; lia) ?_ (here (.str _ _ _ rfl) (M.toks _) q)
    show (seqIndex? i b.cps.size).bind _ = _
    by_cases hi : i < 0
    · rw [if_pos hi] at hx
      rw [seqIdxNeg hi h0]
      simpa using hx
    · rw [if_neg hi] at hx
      rw [seqIdx (by lia) h1]
      simpa using hx
theorem GI_rlistNeg {a : Addr} {l : List V} {y : V} (at' : At a (.list l) cs) (h0 : i < 0) (h1 : -(l.length : Int) ≤ i) (h2 : l.length ≤ 1099511627776) (hy : l[(i + l.length).toNat]? = some y) (q : Q y cs) : GI c A cs (.ref a) (.int i) Q := fun W F s v u M r1 r2 => by
  (first | cases r1 using Rel.intE | cases r1 using Rel.refE | cases r1 using RelL.nilE | cases r1 using Rel.strE | cases r1 using Rel.bytesE | cases r1 using Rel.noneE | cases r1 using Rel.boolE | cases r1 using Rel.listE | cases r1 using Rel.tupE | cases r1 using Rel.sdE | cases r1 using Rel.iddE | cases r1 using Rel.biE | cases r1 using Rel.tyE | cases r1 using Rel.rngE | cases r1)
  obtain ⟨o, ho, hr, _⟩ := M.own _ at'.mem
  cases hr with
  | list us n _ r =>
    (first | cases r2 using Rel.intE | cases r2 using Rel.refE | cases r2 using RelL.nilE | cases r2 using Rel.strE | cases r2 using Rel.bytesE | cases r2 using Rel.noneE | cases r2 using Rel.boolE | cases r2 using Rel.listE | cases r2 using Rel.tupE | cases r2 using Rel.sdE | cases r2 using Rel.iddE | cases r2 using Rel.biE | cases r2 using Rel.tyE | cases r2 using Rel.rngE | cases r2)
    have e := RL.len r
    have hlt : (i + l.length).toNat < us.length := by rw [e]; exact (List.getElem?_eq_some_iff.mp hy).1
    refine wpAny_getItem_list_neg (items := us.toArray) ⟨_, ho, rfl, n, rfl⟩ h0 (by simp [e]; lia) (by lia) (x := us[(i + l.length).toNat]) (by simp [hlt, e]) (here (RL.get r _ _ _ (by simp [hlt]) hy) M q)
/-! ### cuts -/
noncomputable def PartG (c : Cx) (A : Around) (env : Env) : Option Expr → Cs → (Option Int → Cs → Prop) → Prop
  | none, cs, K => K none cs
  | some e, cs, K => GE c A cs (eval e env) fun v cs1 => ∃ i, v = .int i ∧ K (some i) cs1
theorem P_none {K : Option Int → Cs → Prop} (k : K none cs) : PartG c A env none cs K := k
theorem PartG.run {e : Option Expr} {K : Option Int → Cs → Prop} (h : PartG c A env e cs K) {W F : Wd} {s : Shared} (M : MdlC c W F cs s) :
    wpAny (model c.prog c.w) A (evalPart e env) (fun v s' => ∃ W' o cs', Le W W' ∧ IsPart v o ∧ MdlC c W' F cs' s' ∧ K o cs') NoE s := by
  cases e with
  | none => exact wpAny_pure ⟨W, none, cs, Le.refl W, .none, M, h⟩
  | some e =>
    refine wpNoE (h W F s M) fun v s1 hp => ?_
    obtain ⟨W1, x, cs1, l1, r1, M1, i, e, k⟩ := hp
    subst e
    (first | cases r1 using Rel.intE | cases r1 using Rel.refE | cases r1 using RelL.nilE | cases r1 using Rel.strE | cases r1 using Rel.bytesE | cases r1 using Rel.noneE | cases r1 using Rel.boolE | cases r1 using Rel.listE | cases r1 using Rel.tupE | cases r1 using Rel.sdE | cases r1 using Rel.iddE | cases r1 using Rel.biE | cases r1 using Rel.tyE | cases r1 using Rel.rngE | cases r1)
    exact ⟨W1, some i, cs1, l1, .int _ _, M1, k⟩

noncomputable def Cut (c : Cx) (A : Around) (cs : Cs) (value slice : Expr) (x : V) (lo hi : Option Int) (Q : V → Cs → Prop) : Prop :=
  ∀ W F s v a lv uv, MdlC c W F cs s → RV c W v x → IsPart lv lo → IsPart uv hi → s.heap.IsSliceOf a lv uv .none → wpAny (model c.prog c.w) A (subscriptTail value slice v (.ref a)) (Post c W F (RV c) Q) NoE s

theorem E_Cut {value : Expr} {lo hi : Option Expr} {p pos : Pos} (h : GE c A cs (eval value env) fun x cs1 => PartG c A env lo cs1 fun l cs2 => PartG c A env hi cs2 fun u cs3 => Cut c A cs3 value (.Slice lo hi none p) x l u Q) :
    GE c A cs (eval (.Subscript value (.Slice lo hi none p) pos) env) Q := fun W F s M => by
  refine Subscript_ (go (h W F s M) fun a s1 W1 x cs1 l1 ra M1 k1 => wpAny_Slice ?_)
  refine wpAny_mono (k1.run M1) (fun lv s2 h2 => ?_) fun _ _ f => f.elim
  obtain ⟨W2, l, cs2, l2, pl, M2, k2⟩ := h2
  refine wpAny_mono (k2.run M2) (fun uv s3 h3 => ?_) fun _ _ f => f.elim
  obtain ⟨W3, u, cs3, l3, pu, M3, k3⟩ := h3
  refine wpAny_pure (a := Value.none) ?_
  obtain ⟨M4, _⟩ := Mdl.push1 M3 { cls := .type "slice", data := .fields #[lv, uv, .none] }
  exact wpNoE (k3 W3 F _ a _ lv uv M4 (RV.mono l3 (RV.mono l2 ra)) pl pu (Heap.IsSliceOf.new _ _ _ _)) fun r s4 h => Post.back l1 (Post.back l2 (Post.back l3 h))

noncomputable def cutL {α : Type} (l : List α) (lo hi : Option Int) : List α := match lo, hi with
  | none, none => l
  | none, some j => l.take j.toNat
  | some i, none => l.drop i.toNat
  | some i, some j => (l.drop i.toNat).take (j.toNat - i.toNat)
noncomputable def okPart : Option Int → Prop
  | none => True
  | some i => 0 ≤ i

noncomputable def normL (n : Nat) : Option Int → Option Int
  | none => none
  | some i => some (if i < 0 then i + n else i)
theorem clip_of {n : Nat} {i : Int} (h : 0 ≤ (if i < 0 then i + n else i)) : clipAt n i = min (if i < 0 then i + n else i).toNat n := by
  unfold clipAt
  generalize (if i < 0 then i + (n : Int) else i) = j at h ⊢
  obtain ⟨k, rfl⟩ := Int.eq_ofNat_of_zero_le h
  rcases Nat.le_total k n with e | e
  · rw [Int.min_eq_left (Int.ofNat_le.mpr e), Int.max_eq_right (Int.natCast_nonneg _)]
    exact (Nat.min_eq_left e).symm
  · rw [Int.min_eq_right (Int.ofNat_le.mpr e), Int.max_eq_right (Int.natCast_nonneg _)]
    exact (Nat.min_eq_right e).symm
theorem Cut_bytesN {value : Expr} {l u : Option Expr} {p : Pos} {x : List Nat} {lo hi : Option Int} (h0 : okPart (normL x.length lo)) (h1 : okPart (normL x.length hi)) (hz : x.length ≤ 16777216)
    (q : Q (.bytes (cutL x (normL x.length lo) (normL x.length hi))) cs) : Cut c A cs value (.Slice l u none p) (.bytes x) lo hi Q := by
  intro W F s v a lv uv M r pl pu hs
  cases r using Rel.bytesE with
  | bytes b t _ e =>
    subst e
    refine tail_any (PySem.W.typeIs_bytes _ _ _) PySem.W.FB.slot_bytes_getitem.lookup (ops := [.ref a, .bytes b t]) ?_ rfl
    refine getItem_meets (PySem.W.typeIs_bytes _ _ _) (by decide) PySem.W.FB.slot_bytes_getitem PySem.W.FB.entry_bytes_getitem (PySem.W.FB.args_bytes_getitem_2 _ _) (PySem.W.KBc.meets_slice2 b t a pl pu) ⟨hs, ?_, fun t' k => ?_⟩
    · refine Nat.le_trans (PySem.W.KBc.size_picked_le b lo hi) (by rw [sizeL]; simpa using hz)
    · refine here (.bytes _ _ _ ?_) (M.toks _) q
      rw [PySem.W.KBc.picked_eq]
      simp only [List.map_take, List.map_drop]
      have hlen : (b.toList.map UInt8.toNat).length = b.size := by simp
      rw [hlen] at h0 h1 ⊢
      generalize b.toList.map UInt8.toNat = y at hlen ⊢
      cases lo with
      | none =>
        cases hi with
        | none => simp [cutL, normL, ← hlen]
        | some j =>
          simp only [normL, okPart] at h0 h1 ⊢
          simp only [Option.elim, cutL, clip_of h1, List.drop_zero, Nat.sub_zero]
          generalize (if j < 0 then j + (b.size : Int) else j) = j
          rcases Nat.le_total j.toNat b.size with h | h
          · rw [Nat.min_eq_left h]
          · rw [Nat.min_eq_right h, List.take_of_length_le (Nat.le_of_eq hlen), List.take_of_length_le (Nat.le_trans (Nat.le_of_eq hlen) h)]
      | some i =>
        simp only [normL, okPart] at h0 h1 ⊢
        have ci := clip_of h0
        generalize (if i < 0 then i + (b.size : Int) else i) = i' at ci h0 ⊢
        have hd : y.drop (min i'.toNat b.size) = y.drop i'.toNat := by
          rcases Nat.le_total i'.toNat b.size with h | h
          · rw [Nat.min_eq_left h]
          · rw [Nat.min_eq_right h, List.drop_of_length_le (Nat.le_of_eq hlen), List.drop_of_length_le (Nat.le_trans (Nat.le_of_eq hlen) h)]
        cases hi with
        | none =>
          simp only [Option.elim, cutL, ci, hd]
          exact List.take_of_length_le (by rw [List.length_drop, hlen]; exact Nat.sub_le_sub_left (Nat.min_le_left _ _) _)
        | some j =>
          have cj := clip_of h1
          simp only [] at h1 ⊢
          generalize (if j < 0 then j + (b.size : Int) else j) = j' at cj h1 ⊢
          simp only [Option.elim, cutL, ci, cj, hd]
          have e1 : ∀ n, y.length - i'.toNat ≤ n → (y.drop i'.toNat).take n = y.drop i'.toNat := fun n hn => List.take_of_length_le (by rw [List.length_drop]; exact hn)
          rcases Nat.le_total i'.toNat b.size with h | h
          · rcases Nat.le_total j'.toNat b.size with h' | h'
            · rw [Nat.min_eq_left h, Nat.min_eq_left h']
            · rw [Nat.min_eq_left h, Nat.min_eq_right h', e1 _ (Nat.le_of_eq (by rw [hlen])), e1 _ (Nat.sub_le_sub_right (Nat.le_trans (Nat.le_of_eq hlen) h') _)]
          · have : y.drop i'.toNat = [] := List.drop_of_length_le (Nat.le_trans (Nat.le_of_eq hlen) h)
            simp [this]

theorem normL_id {n : Nat} : ∀ {o : Option Int}, okPart o → normL n o = o
  | none, _ => rfl
  | some i, h => by
    have : ¬ i < 0 := Int.not_lt.mpr h
    show some (if i < 0 then i + n else i) = some i
    rw [if_neg this]
theorem Cut_bytes {value : Expr} {l u : Option Expr} {p : Pos} {lo hi : Option Int} (h0 : okPart lo) (h1 : okPart hi) (hz : x.length ≤ 16777216) (q : Q (.bytes (cutL x lo hi)) cs) : Cut c A cs value (.Slice l u none p) (.bytes x) lo hi Q :=
  Cut_bytesN (by rw [normL_id h0]; exact h0) (by rw [normL_id h1]; exact h1) hz (by rw [normL_id h0, normL_id h1]; exact q)

theorem Cut_str {value : Expr} {l u : Option Expr} {p : Pos} {lo hi : Option Int} (hz : x.length ≤ 16777216)
    (h : match lo, hi with | none, none => False | none, some j => 0 ≤ j ∧ j ≤ x.length | some i, none => 0 ≤ i ∧ i ≤ x.length | some i, some j => 0 ≤ i ∧ i ≤ j ∧ j ≤ x.length)
    (q : Q (.str (cutL x lo hi)) cs) : Cut c A cs value (.Slice l u none p) (.str x) lo hi Q := by
  intro W F s v a lv uv M r pl pu hs
  cases r using Rel.strE with
  | str b t _ e =>
    subst e
    simp only [Array.length_toList] at h hz
    have key : ∀ (z : Str) (y : List Nat), (Txt.slice b lo hi == z) = true → z.cps.toList = cutL b.cps.toList lo hi → (Txt.slice b lo hi).cps.toList = cutL b.cps.toList lo hi := fun z y e1 e2 => by rw [eq_of_beq e1]; exact e2
    have main : (Txt.slice b lo hi).cps.toList = cutL b.cps.toList lo hi := by
      cases lo with
      | none => cases hi with
        | none => exact h.elim
        | some j =>
          refine key _ [] (PyProof.Rows.slice_closes_toL h.1 h.2) ?_
          simp [cutL]
      | some i => cases hi with
        | none =>
          obtain ⟨k, rfl⟩ := Int.eq_ofNat_of_zero_le h.1
          refine key _ [] (PyProof.Rows.slice_closes_fromL (b := b.length) h.1 h.2 rfl) ?_
          show (b.cps.toList.drop k).take (((b.cps.toList.length : Nat) : Int) - (k : Int)).toNat = b.cps.toList.drop k
          rw [Int.toNat_sub]
          exact List.take_of_length_le (by rw [List.length_drop]; exact Nat.le_refl _)
        | some j =>
          obtain ⟨k, rfl⟩ := Int.eq_ofNat_of_zero_le h.1
          obtain ⟨m, rfl⟩ := Int.eq_ofNat_of_zero_le (Int.le_trans h.1 h.2.1)
          refine key _ [] (PyProof.Rows.slice_closesL h.1 h.2.1 h.2.2) ?_
          show (b.cps.toList.drop k).take ((m : Int) - (k : Int)).toNat = (b.cps.toList.drop k).take (m - k)
          rw [Int.toNat_sub]
    have fin : ∀ t' k, Post c W F (RV c) Q (.str (Txt.slice b lo hi) t') { s with heap := s.heap, toks := k } := fun t' k => here (.str _ _ _ main) (M.toks _) q
    refine tail_any (typeIs_str _ _ _) PySem.F.slot_str_getitem.lookup (ops := [.ref a, .str b t]) ?_ rfl
    obtain ⟨o, ho, hc, hd⟩ := hs
    have hsz : (Txt.slice b lo hi).length ≤ sizeLine := Nat.le_trans (Txt.slice_le _ _ _) (by rw [sizeL]; exact hz)
    cases pl with
    | none => cases pu with
      | none => exact wpAny_getItem_str_slice (l := none) (u := none) (st := none) ⟨o, ho, hc, hd⟩ rfl (post_val_or_str ⟨hsz, fin⟩)
      | int j uj => exact wpAny_getItem_str_slice (l := none) (u := some (j, uj)) (st := none) ⟨o, ho, hc, hd⟩ rfl (post_val_or_str ⟨hsz, fin⟩)
    | int i ui => cases pu with
      | none => exact wpAny_getItem_str_slice (l := some (i, ui)) (u := none) (st := none) ⟨o, ho, hc, hd⟩ rfl (post_val_or_str ⟨hsz, fin⟩)
      | int j uj => exact wpAny_getItem_str_slice (l := some (i, ui)) (u := some (j, uj)) (st := none) ⟨o, ho, hc, hd⟩ rfl (post_val_or_str ⟨hsz, fin⟩)
end
end U

/-! ## U9 -/
namespace U
open PySem PyProof.Rows PySem.Calls

theorem u8map (l : List UInt8) (m : List UInt8) : (l.map UInt8.toNat = m.map UInt8.toNat) ↔ l = m :=
  List.map_inj_right fun a b e => UInt8.toNat_inj.mp e

theorem byte_type_join : typeOf (.builtin "bytes.join") = pure (.type "method_descriptor") := by show builtinType _ = _; rw [builtinType_eq_fast]; kernel_rfl
theorem byte_slot_join : Slot "bytes" "join" "bytes.join" :=
  .of (owner := "bytes") (n := "join") (by rw [typeLookup_type, builtinLookup_eq_fast]; kernel_rfl) (by decide +kernel) (by decide +kernel) (by decide +kernel)
    (by first | exact .inl (by decide +kernel) | exact .inr (by decide +kernel)) (by rw [isSubtype_type]; kernel_rfl)
theorem byte_entry_join : entryFor table "bytes.join" = some Builtin.«bytes.join» := entryFor_of_tree (by kernel_rfl)
theorem byte_args_join (a b : Value) : argsOk "bytes.join" ⟨[a, b], []⟩ := by
  unfold argsOk; rw [signature?_of (id := "bytes.join") (n := ['n', 'i', 'o', 'j']) (o := ['s', 'e', 't', 'y', 'b']) (by kernel_rfl) PySem.W.FB.owner_bytes]; kernel_rfl
theorem byte_type_index : typeOf (.builtin "bytes.index") = pure (.type "method_descriptor") := by show builtinType _ = _; rw [builtinType_eq_fast]; kernel_rfl
theorem byte_slot_index : Slot "bytes" "index" "bytes.index" :=
  .of (owner := "bytes") (n := "index") (by rw [typeLookup_type, builtinLookup_eq_fast]; kernel_rfl) (by decide +kernel) (by decide +kernel) (by decide +kernel)
    (by first | exact .inl (by decide +kernel) | exact .inr (by decide +kernel)) (by rw [isSubtype_type]; kernel_rfl)
theorem byte_entry_index : entryFor table "bytes.index" = some Builtin.«bytes.index» := entryFor_of_tree (by kernel_rfl)
theorem byte_args_index (a b : Value) : argsOk "bytes.index" ⟨[a, b], []⟩ := by
  unfold argsOk; rw [signature?_of (id := "bytes.index") (n := ['x', 'e', 'd', 'n', 'i']) (o := ['s', 'e', 't', 'y', 'b']) (by kernel_rfl) PySem.W.FB.owner_bytes]; kernel_rfl
theorem byte_type_split : typeOf (.builtin "bytes.split") = pure (.type "method_descriptor") := by show builtinType _ = _; rw [builtinType_eq_fast]; kernel_rfl
theorem byte_slot_split : Slot "bytes" "split" "bytes.split" :=
  .of (owner := "bytes") (n := "split") (by rw [typeLookup_type, builtinLookup_eq_fast]; kernel_rfl) (by decide +kernel) (by decide +kernel) (by decide +kernel)
    (by first | exact .inl (by decide +kernel) | exact .inr (by decide +kernel)) (by rw [isSubtype_type]; kernel_rfl)
theorem byte_entry_split : entryFor table "bytes.split" = some Builtin.«bytes.split» := entryFor_of_tree (by kernel_rfl)
theorem byte_args_split (a b d : Value) : argsOk "bytes.split" ⟨[a, b, d], []⟩ := by
  unfold argsOk; rw [signature?_of (id := "bytes.split") (n := ['t', 'i', 'l', 'p', 's']) (o := ['s', 'e', 't', 'y', 'b']) (by kernel_rfl) PySem.W.FB.owner_bytes]; kernel_rfl

section
variable {c : Cx} {α β : Type} {A : Around} {cs : Cs} {env : Env} {i j : Int} {x y : List Nat} {Q : V → Cs → Prop} {QB : Bool → Cs → Prop}

theorem O_addB (hz : x.length + y.length ≤ 16777216) (q : Q (.bytes (x ++ y)) cs) : Op2 c A cs (binaryOp .Add) (.bytes x) (.bytes y) (RV c) Q := fun W F s v u M r1 r2 => by
  cases r1 using Rel.bytesE with
  | bytes a t _ e1 => cases r2 using Rel.bytesE with
    | bytes b w _ e2 =>
      subst e1 e2
      exact PySem.W.KBy.add_bytes (by simpa using hz) fun t' k => here (.bytes _ _ _ (by simp)) (M.toks _) q
theorem C_eqB (q : QB (decide (x = y)) cs) : Cmp c A cs .Eq (.bytes x) (.bytes y) QB := fun W F s v u M r1 r2 => by
  cases r1 using Rel.bytesE with
  | bytes a t _ e1 => cases r2 using Rel.bytesE with
    | bytes b w _ e2 =>
      subst e1 e2
      refine PySem.W.eq_bytes (here (.bool _) M ⟨_, rfl, ?_⟩)
      rw [show (a.toList == b.toList) = decide (a.toList.map UInt8.toNat = b.toList.map UInt8.toNat) from (by rw [Bool.eq_iff_iff, decide_eq_true_iff, u8map]; simp)]
      exact q
theorem C_neB (q : QB (decide (x ≠ y)) cs) : Cmp c A cs .NotEq (.bytes x) (.bytes y) QB := fun W F s v u M r1 r2 => by
  cases r1 using Rel.bytesE with
  | bytes a t _ e1 => cases r2 using Rel.bytesE with
    | bytes b w _ e2 =>
      subst e1 e2
      refine PySem.W.ne_bytes (here (.bool _) M ⟨_, rfl, ?_⟩)
      rw [show (a.toList != b.toList) = decide (a.toList.map UInt8.toNat ≠ b.toList.map UInt8.toNat) from (by rw [Bool.eq_iff_iff, decide_eq_true_iff, ne_eq, u8map]; simp)]
      exact q

theorem gives_contains {b : Array UInt8} {t u : Tok} (h0 : 0 ≤ i) (h1 : i < 256) : Gives (Builtin.«bytes.__contains__» ⟨[.bytes b t, .int i u], []⟩) (.val (.bool (b.contains i.toNat.toUInt8))) := by
  refine .of_wp fun M A E s Q hq => ?_
  show wpAny M A (Builtin.Bytes.containsIn "bytes.__contains__" (.bytes b t) (.int i u) >>= fun r => _) _ E s
  refine wpAny_bind ?_
  unfold Builtin.Bytes.containsIn
  refine wpAny_bind (wpAny_attempt (wpAny_of_eq (a := i) rfl ?_))
  refine wpAny_bind (wpAny_of_eq PySem.W.KBy.buffer_eq ?_)
  show wpAny M A (if (decide (i < 0) || decide (i ≥ 256)) = true then _ else _) _ E s
  rw [if_neg (by simp; lia)]
  exact wpAny_pure (wpAny_pure ⟨_, rfl, hq⟩)

theorem mem_u8 {b : Array UInt8} (h0 : 0 ≤ i) (h1 : i < 256) : b.contains i.toNat.toUInt8 = decide (i.toNat ∈ b.toList.map UInt8.toNat) := by
  rw [Bool.eq_iff_iff, decide_eq_true_iff, Array.contains_iff_mem, List.mem_map]
  constructor
  · intro h
    refine ⟨_, Array.mem_toList_iff.mpr h, ?_⟩
    show (i.toNat.toUInt8).toNat = i.toNat
    rw [show i.toNat.toUInt8 = UInt8.ofNat i.toNat from rfl, UInt8.toNat_ofNat']
    lia
  · rintro ⟨z, hz, e⟩
    have : i.toNat.toUInt8 = z := by
      rw [← e]
      apply UInt8.toNat_inj.mp
      show (UInt8.ofNat z.toNat).toNat = z.toNat
      rw [UInt8.toNat_ofNat']
      have := z.toNat_lt
      lia
    rw [this]; exact Array.mem_toList_iff.mp hz

theorem C_inB (h0 : 0 ≤ i) (h1 : i < 256) (q : QB (decide (i.toNat ∈ x)) cs) : Cmp c A cs .In (.int i) (.bytes x) QB := fun W F s v u M r1 r2 => by
  (first | cases r1 using Rel.intE | cases r1 using Rel.refE | cases r1 using RelL.nilE | cases r1 using Rel.strE | cases r1 using Rel.bytesE | cases r1 using Rel.noneE | cases r1 using Rel.boolE | cases r1 using Rel.listE | cases r1 using Rel.tupE | cases r1 using Rel.sdE | cases r1 using Rel.iddE | cases r1 using Rel.biE | cases r1 using Rel.tyE | cases r1 using Rel.rngE | cases r1); cases r2 using Rel.bytesE with
  | bytes b w _ e2 =>
    subst e2
    refine in_gives (PySem.W.typeIs_bytes _ _ _) PySem.W.FB.slot_bytes_contains PySem.W.FB.entry_bytes_contains (PySem.W.FB.args_bytes_contains_2 _ _) (gives_contains h0 h1) (here (.bool _) M ⟨_, rfl, ?_⟩)
    rw [mem_u8 h0 h1]; exact q
theorem C_ninB (h0 : 0 ≤ i) (h1 : i < 256) (q : QB (decide (i.toNat ∉ x)) cs) : Cmp c A cs .NotIn (.int i) (.bytes x) QB := fun W F s v u M r1 r2 => by
  (first | cases r1 using Rel.intE | cases r1 using Rel.refE | cases r1 using RelL.nilE | cases r1 using Rel.strE | cases r1 using Rel.bytesE | cases r1 using Rel.noneE | cases r1 using Rel.boolE | cases r1 using Rel.listE | cases r1 using Rel.tupE | cases r1 using Rel.sdE | cases r1 using Rel.iddE | cases r1 using Rel.biE | cases r1 using Rel.tyE | cases r1 using Rel.rngE | cases r1); cases r2 using Rel.bytesE with
  | bytes b w _ e2 =>
    subst e2
    refine notIn_gives (PySem.W.typeIs_bytes _ _ _) PySem.W.FB.slot_bytes_contains PySem.W.FB.entry_bytes_contains (PySem.W.FB.args_bytes_contains_2 _ _) (gives_contains h0 h1) (here (.bool _) M ⟨_, rfl, ?_⟩)
    rw [mem_u8 h0 h1, ← decide_not]; exact q

theorem int_no_buffer : typeLookup (.type "int") "__buffer__" = pure none := by rw [typeLookup_type, builtinLookup_eq_fast]; kernel_rfl
theorem buffer_int {id : String} {u : Tok} : Builtin.Bytes.buffer? id (.int i u) = pure none := by
  unfold Builtin.Bytes.buffer?
  have e : specialOf (.int i u) "__buffer__" = pure none := by
    have e : specialOf (.int i u) "__buffer__" = typeLookup (.type "int") "__buffer__" := rfl
    rw [e, int_no_buffer]
  rw [e]; rfl

theorem bindOpt2 {id f : String} {a b : Value} : Builtin.Bytes.bindOptional id f ["sep", "maxsplit"] [a, b] [] = pure [some a, some b] := by
  rfl

/-- the place of the first one -/
theorem M_index {k : Nat} (h0 : 0 ≤ i) (h1 : i < 256) (hz : x.length ≤ 16777216)  (hx : x ≠ []) (hk : Builtin.Bytes.find? (x.map Nat.toUInt8).toArray #[i.toNat.toUInt8] 0 x.length = some k) (q : Q (.int k) cs) : Bi c A cs "bytes.index" [.bytes x, .int i] Q := fun W F s vs M r => by
  cases r using RelL.consE with
  | cons v _ vs _ r rs => cases rs using RelL.consE with
    | cons u _ us _ r2 rs => (first | cases rs using Rel.intE | cases rs using Rel.refE | cases rs using RelL.nilE | cases rs using Rel.strE | cases rs using Rel.bytesE | cases rs using Rel.noneE | cases rs using Rel.boolE | cases rs using Rel.listE | cases rs using Rel.tupE | cases rs using Rel.sdE | cases rs using Rel.iddE | cases rs using Rel.biE | cases rs using Rel.tyE | cases rs using Rel.rngE | cases rs); (first | cases r2 using Rel.intE | cases r2 using Rel.refE | cases r2 using RelL.nilE | cases r2 using Rel.strE | cases r2 using Rel.bytesE | cases r2 using Rel.noneE | cases r2 using Rel.boolE | cases r2 using Rel.listE | cases r2 using Rel.tupE | cases r2 using Rel.sdE | cases r2 using Rel.iddE | cases r2 using Rel.biE | cases r2 using Rel.tyE | cases r2 using Rel.rngE | cases r2); cases r using Rel.bytesE with
      | bytes b t _ e =>
        subst e
        rename_i u _
        refine call_meetsIn (S := fun _ R s => ∀ t' n, R (.ok (.ret (.int k t'))) { s with toks := n }) byte_slot_index (PySem.W.typeIs_bytes _ _ _) byte_entry_index (byte_args_index _ _) (.of_wp fun A R s hq => ?_) fun t' n => here (.int _ _) (M.toks _) q
        show wpAny _ A.in1 (Builtin.Bytes.searchM .bytes "index" false true ⟨[.bytes b t, .int i u], []⟩) _ _ s
        unfold Builtin.Bytes.searchM
        refine wpAny_bind ?_
        unfold Builtin.Bytes.searchArgs
        refine wpAny_bind (wpAny_of_eq (a := (Value.bytes b t, [Value.int i u])) rfl ?_)
        refine wpAny_bind (wpAny_of_eq (a := none) rfl ?_)
        refine wpAny_bind (wpAny_of_eq (a := none) rfl ?_)
        refine wpAny_bind (wpAny_of_eq buffer_int ?_)
        dsimp only
        refine wpAny_bind ?_
        refine wpAny_specialOf (T := "int") (typeIs_int _ _ _) PySem.F.slot_int_index.lookup ?_
        refine wpAny_bind (wpAny_of_eq (a := i) rfl ?_)
        show wpAny _ A.in1 (if (decide (i < 0) || decide (i ≥ 256)) = true then _ else _) _ _ s
        rw [if_neg (by simp; lia)]
        refine wpAny_pure ?_
        have hw : Builtin.Bytes.window b.size none none = (0, (b.size : Int)) := by
          unfold Builtin.Bytes.window
          simp only [Option.getD_none, Prod.mk.injEq]
          constructor
          · rfl
          · split <;> lia
        rw [hw]
        have hb : ((b.toList.map UInt8.toNat).map Nat.toUInt8).toArray = b := by
          rw [List.map_map]
          have : (Nat.toUInt8 ∘ UInt8.toNat) = id := by
            funext z
            show UInt8.ofNat z.toNat = z
            exact UInt8.ofNat_toNat
          rw [this]; simp
        rw [hb] at hk
        have hlen : (b.toList.map UInt8.toNat).length = b.size := by simp
        rw [hlen] at hk
        have hne : 0 < b.size := by
          rcases Nat.eq_zero_or_pos b.size with h | h
          · exfalso; apply hx; rw [List.eq_nil_iff_length_eq_zero, hlen, h]
          · exact h
        have e1 : ¬ ((b.size : Int) - 0 < ((#[i.toNat.toUInt8] : Array UInt8).size : Nat)) := by simp; lia
        dsimp only
        rw [if_neg e1]
        simp only [Option.bind_some, Bool.false_eq_true, if_false, Int.toNat_natCast, Int.toNat_zero, hk]
        exact wpAny_bind (wpAny_mkInt (wpAny_pure ⟨_, rfl, hq _ _⟩))
end
end U

/-! ## U10 -/
namespace U
open PySem PyProof.Rows PySem.Calls

noncomputable def joinN (sep : List Nat) : List (List Nat) → List Nat
  | [] => []
  | [x] => x
  | x :: y :: r => x ++ sep ++ joinN sep (y :: r)

noncomputable def AllBytes (vs : List Value) (bs : List (Array UInt8)) : Prop := vs.length = bs.length ∧ ∀ (j : Nat) (b : Array UInt8), bs[j]? = some b → ∃ t, vs[j]? = some (.bytes b t)

section
variable {M : Model} {A : Around} {E : Value → Shared → Prop} {s : Shared}
theorem take_quiet {id : String} {b : Array UInt8} {t : Tok} : Builtin.Bytes.takeBufferQuiet? id (.bytes b t) 0 = pure (some (b, none)) := by
  unfold Builtin.Bytes.takeBufferQuiet? Builtin.Bytes.takeBuffer?
  rw [PySem.W.KBy.special_eq PySem.W.KBy.look_buffer, PySem.W.KBy.own_buffer, show ((0 : Int) == Builtin.Bytes.fullReadOnly) = false by decide +kernel, PySem.W.KBy.buffer_eq]
  rfl
theorem joinLetGo_ok {taken : List (Value × Option Value)} {keep : List Value} (h : ∀ p ∈ taken, p.2 = none) {Q : Unit → Shared → Prop} (q : Q () s) : wpAny M A (Builtin.Bytes.joinLetGo taken keep) Q E s := by
  induction taken with
  | nil => exact wpAny_pure q
  | cons p r ih =>
    obtain ⟨x, w⟩ := p
    have hw : w = none := h (x, w) List.mem_cons_self
    subst hw
    unfold Builtin.Bytes.joinLetGo
    exact wpAny_bind (wpAny_letGo (ih fun p hp => h p (List.mem_cons_of_mem _ hp)))
end

theorem meets_join1 {prog : Program} {w : World} {sep : Array UInt8} {t : Tok} {D : Addr} {n : Nat} {b : Array UInt8} {t1 : Tok}  :
    MeetsIn prog w (Builtin.«bytes.join» ⟨[.bytes sep t, .ref D], []⟩) (fun _ R s => s.heap.get? D = some (listObj [.bytes b t1] n) ∧ ∀ t' n', R (.ok (.ret (.bytes (Builtin.Bytes.joined sep [b]) t'))) { s with toks := n' }) :=
  .of_wp fun A R s ⟨ho, h⟩ => by
    show wpAny _ A.in1 (Builtin.Bytes.joinM .bytes ⟨[.bytes sep t, .ref D], []⟩) _ _ s
    unfold Builtin.Bytes.joinM
    refine wpAny_bind (wpAny_of_eq (a := (Value.bytes sep t, Value.ref D)) rfl ?_)
    dsimp only
    rw [if_pos (by decide)]
    have hT : s.TypeIs (.ref D) "list" := ⟨_, ho, rfl⟩
    refine wpAny_bind ?_
    unfold Builtin.Bytes.joinItems
    refine wpAny_bind (wpAny_typeOf hT ?_)
    rw [if_pos (by decide +kernel)]
    refine wpAny_pure ?_
    refine wpAny_bind (wpAny_seqItems (items := #[.bytes b t1]) ho rfl ?_)
    dsimp only
    rw [if_pos (by decide)]
    refine wpAny_bind (wpAny_typeOf (PySem.W.typeIs_bytes _ _ _) ?_)
    rw [if_pos (by decide +kernel)]
    refine wpAny_bind (wpAny_rule (wpAny_pure ⟨_, rfl, ?_⟩))
    have hjo : Builtin.Bytes.joined sep [b] = b := by simp [Builtin.Bytes.joined]
    rw [hjo] at h
    exact h t1 s.toks
theorem meets_join0 {prog : Program} {w : World} {sep : Array UInt8} {t : Tok} {D : Addr} {n : Nat}  (hj : (Builtin.Bytes.joined sep []).size ≤ 16777216) :
    MeetsIn prog w (Builtin.«bytes.join» ⟨[.bytes sep t, .ref D], []⟩) (fun _ R s => s.heap.get? D = some (listObj [] n) ∧ ∀ t' n', R (.ok (.ret (.bytes (Builtin.Bytes.joined sep []) t'))) { s with toks := n' }) :=
  .of_wp fun A R s ⟨ho, h⟩ => by
    show wpAny _ A.in1 (Builtin.Bytes.joinM .bytes ⟨[.bytes sep t, .ref D], []⟩) _ _ s
    unfold Builtin.Bytes.joinM
    refine wpAny_bind (wpAny_of_eq (a := (Value.bytes sep t, Value.ref D)) rfl ?_)
    dsimp only
    rw [if_pos (by decide)]
    have hT : s.TypeIs (.ref D) "list" := ⟨_, ho, rfl⟩
    refine wpAny_bind ?_
    unfold Builtin.Bytes.joinItems
    refine wpAny_bind (wpAny_typeOf hT ?_)
    rw [if_pos (by decide +kernel)]
    refine wpAny_pure ?_
    refine wpAny_bind (wpAny_seqItems (items := #[]) ho rfl ?_)
    dsimp only
    rw [if_pos (by decide)]
    refine wpAny_bind ?_
    rw [Std.Legacy.Range.forIn_eq_forIn_range']
    refine wpAny_pure ?_
    refine wpAny_bind (wpAny_of_eq (a := sep) rfl ?_)
    dsimp only
    rw [if_neg (by rw [PySem.W.KBy.tooLong_not (by simp)]; exact Bool.false_ne_true)]
    refine wpAny_bind (wpAny_mkBytes ?_ (by rw [sizeL]; simpa using hj))
    refine wpAny_bind (wpAny_holding (wpAny_point ?_))
    refine wpAny_bind (joinLetGo_ok (fun p hp => by simp at hp) (wpAny_pure ⟨_, rfl, ?_⟩))
    exact h _ _
theorem meets_join2 {prog : Program} {w : World} {sep : Array UInt8} {t : Tok} {D : Addr} {n : Nat} {v v2 : Value} {r : List Value} {bl : List (Array UInt8)} (hb : AllBytes (v :: v2 :: r) bl)
    (hz : bl.foldl (· + ·.size) (sep.size * (bl.length - 1)) ≤ 16777216) (hj : (Builtin.Bytes.joined sep bl).size ≤ 16777216) :
    MeetsIn prog w (Builtin.«bytes.join» ⟨[.bytes sep t, .ref D], []⟩) (fun _ R s => s.heap.get? D = some (listObj (v :: v2 :: r) n) ∧ ∀ t' n', R (.ok (.ret (.bytes (Builtin.Bytes.joined sep bl) t'))) { s with toks := n' }) :=
  .of_wp fun A R s ⟨ho, h⟩ => by
    show wpAny _ A.in1 (Builtin.Bytes.joinM .bytes ⟨[.bytes sep t, .ref D], []⟩) _ _ s
    unfold Builtin.Bytes.joinM
    refine wpAny_bind (wpAny_of_eq (a := (Value.bytes sep t, Value.ref D)) rfl ?_)
    dsimp only
    rw [if_pos (by decide)]
    have hT : s.TypeIs (.ref D) "list" := ⟨_, ho, rfl⟩
    refine wpAny_bind ?_
    unfold Builtin.Bytes.joinItems
    refine wpAny_bind (wpAny_typeOf hT ?_)
    rw [if_pos (by decide +kernel)]
    refine wpAny_pure ?_
    refine wpAny_bind (wpAny_seqItems (items := (v :: v2 :: r).toArray) ho rfl ?_)
    dsimp only
    rw [if_pos (by decide)]
    refine wpAny_bind ?_
    generalize v :: v2 :: r = vs at *
    rw [Std.Legacy.Range.forIn_eq_forIn_range']
    have hsz : ([:vs.toArray.size] : Std.Legacy.Range).size = vs.length := by simp [Std.Legacy.Range.size]
    rw [hsz]
    refine wpAny_forIn_list _ (fun rest st s' => s' = s ∧ ∃ k, rest = List.range' k (vs.length - k) ∧ k ≤ vs.length ∧ st.1 = (bl.take k).toArray ∧ ∀ p ∈ st.2, p.2 = none ∧ p.1.onHeap = false) _ ?_ ?_ _ _ ⟨rfl, 0, rfl, Nat.zero_le _, by simp, by simp⟩
    · rintro x rest ⟨parts, taken⟩ s' ⟨rfl, k, hk, hle, hp, ht⟩
      have hlt : k < vs.length := by
        rcases Nat.lt_or_ge k vs.length with h | h
        · exact h
        · rw [show vs.length - k = 0 by lia] at hk; simp at hk
      rw [show vs.length - k = (vs.length - (k + 1)) + 1 by lia, List.range'_succ] at hk
      obtain ⟨rfl, rfl⟩ := List.cons.inj hk
      refine wpAny_bind (wpAny_seqItems (items := vs.toArray) ho rfl ?_)
      dsimp only
      have hany : (taken.any fun x => x.1.onHeap) = false := by
        rw [List.any_eq_false]; intro p hp; rw [(ht p hp).2]; exact Bool.false_ne_true
      rw [if_neg (by rw [hany]; decide)]
      have hlb : x < bl.length := hb.1 ▸ hlt
      obtain ⟨t1, hv⟩ := hb.2 x bl[x] (by simp [hlb])
      have hg : vs.toArray.getD x .none = .bytes bl[x] t1 := by simp [Array.getD, hlt]; rw [List.getElem?_eq_getElem hlt] at hv; exact Option.some.inj hv
      rw [hg]
      refine wpAny_bind (wpAny_holding (wpAny_of_eq take_quiet ?_))
      dsimp only
      refine wpAny_bind (wpAny_seqItems (items := vs.toArray) ho rfl ?_)
      dsimp only
      rw [if_neg (by simp)]
      refine wpAny_pure ⟨rfl, x + 1, rfl, hlt, ?_, ?_⟩
      · dsimp only at hp ⊢
        rw [hp, List.take_add_one, List.getElem?_eq_getElem (by rw [← hb.1]; exact hlt)]
        simp
      · intro p hp
        rcases List.mem_append.mp hp with h | h
        · exact ht p h
        · rw [List.mem_singleton.mp h]; exact ⟨rfl, rfl⟩
    · rintro ⟨parts, taken⟩ s' ⟨rfl, k, hk, hle, hp, ht⟩
      have hk0 : vs.length - k = 0 := by
        have := congrArg List.length hk; simpa using this.symm
      have hke : k = bl.length := by rw [← hb.1]; lia
      subst hke
      rw [List.take_length] at hp
      dsimp only at hp ht ⊢
      subst hp
      refine wpAny_bind (wpAny_of_eq (a := sep) rfl ?_)
      dsimp only
      rw [if_neg (by rw [PySem.W.KBy.tooLong_not (by simpa using hz)]; exact Bool.false_ne_true)]
      refine wpAny_bind (wpAny_mkBytes ?_ (by rw [sizeL]; simpa using hj))
      refine wpAny_bind (wpAny_holding (wpAny_point ?_))
      refine wpAny_bind (joinLetGo_ok (fun p hp => (ht p hp).1) (wpAny_pure ⟨_, rfl, ?_⟩))
      exact h _ _
theorem meets_join {prog : Program} {w : World} {sep : Array UInt8} {t : Tok} {D : Addr} {vs : List Value} {n : Nat} {bl : List (Array UInt8)} (hb : AllBytes vs bl)
    (hz : bl.foldl (· + ·.size) (sep.size * (bl.length - 1)) ≤ 16777216) (hj : (Builtin.Bytes.joined sep bl).size ≤ 16777216) :
    MeetsIn prog w (Builtin.«bytes.join» ⟨[.bytes sep t, .ref D], []⟩) (fun _ R s => s.heap.get? D = some (listObj vs n) ∧ ∀ t' n', R (.ok (.ret (.bytes (Builtin.Bytes.joined sep bl) t'))) { s with toks := n' }) := by
  rcases vs with _ | ⟨v, _ | ⟨v2, r⟩⟩
  · obtain rfl : bl = [] := List.eq_nil_of_length_eq_zero (by rw [← hb.1]; rfl)
    exact meets_join0 hj
  · have hl : bl.length = 1 := by rw [← hb.1]; rfl
    obtain ⟨b, rfl⟩ := List.length_eq_one_iff.mp hl
    obtain ⟨t1, ht1⟩ := hb.2 0 b rfl
    obtain rfl : v = .bytes b t1 := Option.some.inj ht1
    exact meets_join1
  · exact meets_join2 hb hz hj

theorem joinN_cons (sep x : List Nat) (r : List (List Nat)) : joinN sep (x :: r) = x ++ r.flatMap (sep ++ ·) := by
  induction r generalizing x with
  | nil => simp [joinN]
  | cons y r ih => rw [joinN, ih]; simp
theorem joined_go (sep : Array UInt8) : ∀ (l : List (Array UInt8)) (k : Nat) (out : Array UInt8), 0 < k →
    ((l.zipIdx k).foldl (fun out (x : Array UInt8 × Nat) => (if x.2 > 0 then out ++ sep else out) ++ x.1) out).toList = out.toList ++ l.flatMap fun p => sep.toList ++ p.toList
  | [], _, _, _ => by simp
  | p :: r, k, out, hk => by
    rw [List.zipIdx_cons, List.foldl_cons, joined_go sep r (k + 1) _ (by lia), if_pos (by exact hk)]
    simp
theorem joined_eq (sep : Array UInt8) (l : List (Array UInt8)) : (Builtin.Bytes.joined sep l).toList.map UInt8.toNat = joinN (sep.toList.map UInt8.toNat) (l.map fun b => b.toList.map UInt8.toNat) := by
  cases l with
  | nil => rfl
  | cons x r =>
    have := joined_go sep r 1 (#[] ++ x) (by decide)
    rw [List.map_cons, joinN_cons]
    have e : Builtin.Bytes.joined sep (x :: r) = ((r.zipIdx 1).foldl (fun out (x : Array UInt8 × Nat) => (if x.2 > 0 then out ++ sep else out) ++ x.1) (#[] ++ x)) := by
      unfold Builtin.Bytes.joined
      rw [List.zipIdx_cons, List.foldl_cons]
      rfl
    rw [e, this]
    simp [List.flatMap_map, List.map_flatMap]
theorem joinN_len (sep : List Nat) : ∀ l : List (List Nat), (joinN sep l).length ≤ sep.length * l.length + (l.map List.length).sum
  | [] => by simp [joinN]
  | [x] => by simp [joinN]
  | x :: y :: r => by
    have := joinN_len sep (y :: r)
    rw [joinN]
    simp only [List.length_append, List.length_cons, List.map_cons, List.sum_cons, Nat.mul_add] at this ⊢
    lia

section
variable {c : Cx} {A : Around} {cs : Cs} {x y : List Nat} {Q : V → Cs → Prop}
theorem RL.allBytes {W : Wd} {vs : List Value} {l : List (List Nat)} (h : RL c W vs (l.map V.bytes)) : ∃ bl, AllBytes vs bl ∧ bl.map (fun b => b.toList.map UInt8.toNat) = l := by
  induction l generalizing vs with
  | nil => cases h; exact ⟨[], ⟨rfl, by simp⟩, rfl⟩
  | cons x l ih =>
    cases h with
    | cons v _ vs _ r rs =>
      obtain ⟨bl, h1, h2⟩ := ih rs
      cases r using Rel.bytesE with
      | bytes b t _ e =>
        refine ⟨b :: bl, ⟨by simp [h1.1], ?_⟩, by simp [e, h2]⟩
        intro j b' hj
        cases j with
        | zero => simp at hj; subst hj; exact ⟨t, rfl⟩
        | succ j => simp at hj; simpa using h1.2 j b' hj

end
end U

/-! ## U11 -/
namespace U
open PySem PyProof.Rows PySem.Calls

noncomputable def leadU : List UInt8 := [117, 116, 102, 45, 56, 39, 39]
noncomputable def occStep (b : Array UInt8) (acc : List Nat × Nat) (i : Nat) : List Nat × Nat := if i ≥ acc.2 && b.extract i (i + 1) == #[39] then (i :: acc.1, i + 1) else acc
theorem occ_grow (b : Array UInt8) : ∀ (zs : List Nat) (acc : List Nat × Nat), ∃ new, (zs.foldl (occStep b) acc).1 = new ++ acc.1
  | [], acc => ⟨[], rfl⟩
  | z :: zs, acc => by
    obtain ⟨new, h⟩ := occ_grow b zs (occStep b acc z)
    rw [List.foldl_cons, h]
    unfold occStep
    split
    · exact ⟨new ++ [z], by simp⟩
    · exact ⟨new, rfl⟩
theorem occ_lead (r : List UInt8) : (Builtin.Bytes.occurrences (leadU ++ r).toArray #[39] 0 (leadU ++ r).toArray.size).take 2 = [5, 6] := by
  have e : Builtin.Bytes.occurrences (leadU ++ r).toArray #[39] 0 (leadU ++ r).toArray.size = ((((List.range (7 + r.length)).map (· + 0)).foldl (occStep (leadU ++ r).toArray) ([], 0)).1).reverse := by
    unfold Builtin.Bytes.occurrences
    have : (leadU ++ r).toArray.size + 1 - (0 + (#[39] : Array UInt8).size) = 7 + r.length := by simp [leadU]; lia
    rw [this]
    rfl
  rw [e, List.range_add, List.map_append, List.foldl_append]
  have h7 : (((List.range 7).map (· + 0)).foldl (occStep (leadU ++ r).toArray) ([], 0)) = ([6, 5], 7) := by
    have hx : ∀ i, i < 7 → ((leadU ++ r).toArray.extract i (i + 1) == #[39]) = (leadU[i]? == some 39) := by
      intro i hi
      have : (leadU ++ r).toArray.extract i (i + 1) = #[leadU[i]'(by simpa [leadU] using hi)] := by
        apply Array.ext
        · simp [leadU]; lia
        · intro j h1 h2
          have : j = 0 := by simp at h2; lia
          subst this
          simp only [Array.getElem_extract, List.getElem_toArray]
          rw [List.getElem_append_left (by simpa [leadU] using hi)]
          simp
      rw [this]
      rw [List.getElem?_eq_getElem (by simpa [leadU] using hi)]
      rw [Bool.eq_iff_iff]
      simp
    have hr : (List.range 7).map (· + 0) = [0, 1, 2, 3, 4, 5, 6] := by decide
    rw [hr]
    simp only [List.foldl_cons, List.foldl_nil, occStep, hx 0 (by decide), hx 1 (by decide), hx 2 (by decide), hx 3 (by decide), hx 4 (by decide), hx 5 (by decide), hx 6 (by decide)]
    decide
  rw [h7]
  obtain ⟨new, hn⟩ := occ_grow (leadU ++ r).toArray (List.map (· + 0) (List.map (fun x => 7 + x) (List.range r.length))) ([6, 5], 7)
  rw [hn]
  simp

theorem between_lead (r : List UInt8) : Builtin.Bytes.between (leadU ++ r).toArray 1 [5, 6] = [#[117, 116, 102, 45, 56], #[], r.toArray] := by
  unfold Builtin.Bytes.between
  simp [leadU]

theorem meets_split {prog : Program} {w : World} {r : List UInt8} {t u v : Tok} (hz : r.length ≤ 16777216) :
    MeetsIn prog w (Builtin.«bytes.split» ⟨[.bytes (leadU ++ r).toArray t, .bytes #[39] u, .int 2 v], []⟩) (fun _ R s => ∀ t1 t2 t3 n, R (.ok (.ret (.ref s.heap.objs.size)))
      { s with heap := s.heap.push (listObj [.bytes #[117, 116, 102, 45, 56] t1, .bytes #[] t2, .bytes r.toArray t3] 0), toks := n }) :=
  .of_wp fun A R s h => by
    show wpAny _ A.in1 (Builtin.Bytes.splitM .bytes "split" false ⟨[.bytes (leadU ++ r).toArray t, .bytes #[39] u, .int 2 v], []⟩) _ _ s
    unfold Builtin.Bytes.splitM
    refine wpAny_bind (wpAny_of_eq bindOpt2 ?_)
    refine wpAny_bind (wpAny_of_eq (a := 2) rfl ?_)
    refine wpAny_bind (wpAny_of_eq (a := (leadU ++ r).toArray) rfl ?_)
    dsimp only
    unfold Builtin.Bytes.bytesLike
    refine wpAny_bind (wpAny_bind (wpAny_of_eq PySem.W.KBy.buffer_eq (wpAny_pure ?_)))
    rw [if_neg (by decide)]
    have e2 : (if (2 : Int) < 0 then (leadU ++ r).toArray.size + 1 else Int.toNat 2) = 2 := rfl
    rw [e2]
    simp only [Bool.false_eq_true, if_false]
    rw [occ_lead, if_neg (by decide)]
    rw [show (#[39] : Array UInt8).size = 1 from rfl, between_lead]
    refine wpAny_bind ?_
    simp only [List.mapM_cons, List.mapM_nil]
    refine wpAny_bind (wpAny_mkBytes ?_ (by rw [sizeL]; decide))
    refine wpAny_bind (wpAny_bind (wpAny_mkBytes ?_ (by rw [sizeL]; decide)))
    refine wpAny_bind (wpAny_bind (wpAny_mkBytes ?_ (by rw [sizeL]; simpa using hz)))
    refine wpAny_bind (wpAny_pure (wpAny_pure (wpAny_pure (wpAny_pure ?_))))
    refine wpAny_bind (wpAny_newObj_type ?_)
    exact wpAny_pure ⟨_, rfl, h _ _ _ _⟩

theorem bytesInv {c : Cx} {W : Wd} {v : Value} {x : List Nat} (h : RV c W v (.bytes x)) : ∃ l t, v = .bytes (List.toArray l) t ∧ l.map UInt8.toNat = x := by
  cases h with
  | bytes b t _ e => exact ⟨b.toList, t, rfl, e⟩
noncomputable def leadN : List Nat := [117, 116, 102, 45, 56, 39, 39]
theorem M_split {c : Cx} {A : Around} {cs : Cs} {Q : V → Cs → Prop} {r : List Nat} (hz : r.length ≤ 16777216) (q : Q (.list [.bytes [117, 116, 102, 45, 56], .bytes [], .bytes r]) cs) :
    Bi c A cs "bytes.split" [.bytes (leadN ++ r), .bytes [39], .int 2] Q := fun W F s vs M rl => by
  cases rl using RelL.consE with
  | cons v _ vs _ r1 rs => cases rs using RelL.consE with
    | cons u _ us _ r2 rs => cases rs using RelL.consE with
      | cons z _ zs _ r3 rs =>
        (first | cases rs using Rel.intE | cases rs using Rel.refE | cases rs using RelL.nilE | cases rs using Rel.strE | cases rs using Rel.bytesE | cases rs using Rel.noneE | cases rs using Rel.boolE | cases rs using Rel.listE | cases rs using Rel.tupE | cases rs using Rel.sdE | cases rs using Rel.iddE | cases rs using Rel.biE | cases rs using Rel.tyE | cases rs using Rel.rngE | cases rs)
        obtain ⟨l, t, rfl, hl⟩ := bytesInv r1
        obtain ⟨m, t2, rfl, hm⟩ := bytesInv r2
        (first | cases r3 using Rel.intE | cases r3 using Rel.refE | cases r3 using RelL.nilE | cases r3 using Rel.strE | cases r3 using Rel.bytesE | cases r3 using Rel.noneE | cases r3 using Rel.boolE | cases r3 using Rel.listE | cases r3 using Rel.tupE | cases r3 using Rel.sdE | cases r3 using Rel.iddE | cases r3 using Rel.biE | cases r3 using Rel.tyE | cases r3 using Rel.rngE | cases r3)
        obtain ⟨l1, l2, rfl, h1, h2⟩ := List.map_eq_append_iff.mp hl
        have e1 : l1 = leadU := (u8map _ _).mp (h1.trans (by decide))
        have e2 : m = [39] := (u8map _ _).mp (hm.trans (by decide))
        subst e1 e2
        refine call_meetsIn byte_slot_split (PySem.W.typeIs_bytes _ _ _) byte_entry_split (byte_args_split _ _ _) (meets_split (by rw [← h2] at hz; simpa using hz)) fun t1 t2 t3 n => ?_
        obtain ⟨M', l'⟩ := M.pushW (listObj [.bytes #[117, 116, 102, 45, 56] t1, .bytes #[] t2, .bytes l2.toArray t3] 0)
        refine ⟨_, _, _, l', .list _ _ 0 _ (by unfold Wd.put; rw [if_pos rfl]) ?_, M'.toks n, q⟩
        exact .cons _ _ _ _ (.bytes _ _ _ rfl) (.cons _ _ _ _ (.bytes _ _ _ rfl) (.cons _ _ _ _ (.bytes _ _ _ (by simpa using h2)) .nil))
end U

/-! ## U12 -/
namespace U
open PySem PyProof.Rows PySem.Calls

theorem seqMap (vs : List Value) (n : Nat) (f : Array Value → Array Value) : ∃ n', (listObj vs n).mapSeq f = listObj (f vs.toArray).toList n' := by
  refine ⟨if (f vs.toArray).size == vs.toArray.size then n else n + 1, ?_⟩
  show (⟨Value.type "list", none, Data.seq _ _, #[]⟩ : Obj) = ⟨_, _, Data.seq (f vs.toArray).toList.toArray _, _⟩
  rw [Array.toArray_toList]

section
variable {c : Cx} {α β : Type} {A : Around} {cs cs' : Cs} {env : Env} {i j : Int} {x y : V} {l m : List V} {Q : V → Cs → Prop} {QB : Bool → Cs → Prop} {QU : Unit → Cs → Prop}

theorem E_Frz {e : Expr} (h : GE c A cs (eval e env) fun v cs1 => ∃ a l cs2, v = .ref a ∧ Take a (.list l) cs1 cs2 ∧ Q (.list l) cs2) : GE c A cs (eval e env) Q := fun W F s M => by
  refine go (h W F s M) fun v s1 W1 z cs1 l1 r1 M1 ⟨a, l, cs2, e1, t, q⟩ => ?_
  subst e1
  (first | cases r1 using Rel.intE | cases r1 using Rel.refE | cases r1 using RelL.nilE | cases r1 using Rel.strE | cases r1 using Rel.bytesE | cases r1 using Rel.noneE | cases r1 using Rel.boolE | cases r1 using Rel.listE | cases r1 using Rel.tupE | cases r1 using Rel.sdE | cases r1 using Rel.iddE | cases r1 using Rel.biE | cases r1 using Rel.tyE | cases r1 using Rel.rngE | cases r1)
  obtain ⟨o, ho1, ho2, M2, l2⟩ := (M1.perm t.perm).freeze
  cases ho1 with
  | list vs n _ r => exact ⟨_, _, _, l1.trans l2, .list a vs n _ (by unfold Wd.put; rw [if_pos rfl]) (RL.mono l2 r), M2, q⟩

/-- a list, fixed or not -/
noncomputable def IsL (c : Cx) (cs : Cs) (x : V) (l : List V) : Prop := ∀ W F s v, MdlC c W F cs s → RV c W v x → ∃ a vs n, v = .ref a ∧ s.heap.get? a = some (listObj vs n) ∧ RL c W vs l
theorem IsL_f : IsL c cs (.list l) l := fun W F s v M r => by
  cases r using Rel.listE with
  | list a vs n _ h r => exact ⟨a, vs, n, rfl, M.hw _ _ h, r⟩
theorem IsL_c {a : Addr} (h : At a (.list l) cs) : IsL c cs (.ref a) l := fun W F s v M r => by
  (first | cases r using Rel.intE | cases r using Rel.refE | cases r using RelL.nilE | cases r using Rel.strE | cases r using Rel.bytesE | cases r using Rel.noneE | cases r using Rel.boolE | cases r using Rel.listE | cases r using Rel.tupE | cases r using Rel.sdE | cases r using Rel.iddE | cases r using Rel.biE | cases r using Rel.tyE | cases r using Rel.rngE | cases r)
  obtain ⟨o, ho, hr, _⟩ := M.own _ h.mem
  cases hr with
  | list vs n _ r => exact ⟨a, vs, n, rfl, ho, r⟩

theorem E_List {elts : List Expr} {pos : Pos} (h : ArgsG c A env elts cs fun xs cs1 => xs.length ≤ 16777216 ∧ ∀ a, Q (.ref a) ((a, .list xs) :: cs1)) (hs : noStar elts = true := by kernel_rfl!) :
    GE c A cs (eval (.List elts pos) env) Q := fun W F s M => by
  refine wpAny_List_spliced (wpNoE (ArgsG.run hs h W F s M) fun vs s1 ⟨W1, xs, cs1, l1, r1, M1, hz, q⟩ => ⟨by rw [RL.len r1, sizeL]; exact hz, ?_⟩)
  exact ⟨W1, _, _, l1, .ref _, M1.pushC _ (.list vs 0 xs r1), q _⟩
theorem E_Tup {elts : List Expr} {k : Nat} {pos : Pos} (h : ArgsG c A env elts cs fun xs cs1 => xs.length ≤ 16777216 ∧ Q (.tup xs) cs1) (hs : noStar elts = true := by kernel_rfl!) :
    GE c A cs (eval (.Tuple elts k pos) env) Q := fun W F s M => by
  refine wpAny_Tuple_spliced (wpNoE (ArgsG.run hs h W F s M) fun vs s1 ⟨W1, xs, cs1, l1, r1, M1, hz, q⟩ => ⟨by rw [RL.len r1, sizeL]; exact hz, ?_⟩)
  obtain ⟨M2, l2⟩ := M1.pushW (tupObj vs 0)
  exact ⟨_, _, _, l1.trans l2, .tup _ vs 0 xs (by unfold Wd.put; rw [if_pos rfl]) (RL.mono l2 r1), M2, q⟩

theorem RL.app {W : Wd} {vs us : List Value} {l m : List V} (h : RL c W vs l) (k : RL c W us m) : RL c W (vs ++ us) (l ++ m) := by
  induction vs generalizing l with
  | nil => cases h; exact k
  | cons v vs ih => cases h with
    | cons _ z _ l r rs => exact .cons _ _ _ _ r (ih rs)

theorem O_addL (h1 : IsL c cs x l) (h2 : IsL c cs y m) (hz : l.length + m.length ≤ 16777216) (q : ∀ a, Q (.ref a) ((a, .list (l ++ m)) :: cs)) : Op2 c A cs (binaryOp .Add) x y (RV c) Q := fun W F s v u M r1 r2 => by
  obtain ⟨a, vs, n, rfl, ha, ra⟩ := h1 W F s v M r1
  obtain ⟨b, us, n2, rfl, hb, rb⟩ := h2 W F s u M r2
  refine PySem.P.add_list ha hb ?_ (by simp [RL.len ra, RL.len rb, sizeL]; exact hz)
  have e : vs.toArray ++ us.toArray = (vs ++ us).toArray := by simp
  rw [e]
  exact ⟨W, _, _, Le.refl W, .ref _, M.pushC _ (.list (vs ++ us) 0 _ (ra.app rb)), q _⟩

theorem updL {W F : Wd} {s : Shared} {a : Addr} {vs us : List Value} {n : Nat} {f : Array Value → Array Value} (M : MdlC c W F cs s) (u : Upd a (.list l) (.list m) cs cs') (ho : s.heap.get? a = some (listObj vs n)) (hf : f vs.toArray = us.toArray) (r : RL c W us m) (k : Nat) :
    MdlC c W F cs' { s with heap := s.heap.update a (Obj.mapSeq f), toks := k } := by
  obtain ⟨n', e⟩ := seqMap vs n f
  rw [hf] at e
  refine M.upd u (Heap.SameBut.update ..) (Heap.get?_update_self _ ho (by rw [e]; rfl)) (by rw [e]; exact .list us n' m r) k

theorem ownL {W F : Wd} {s : Shared} {a : Addr} (M : MdlC c W F cs s) (u : Upd a (.list l) (.list m) cs cs') : ∃ vs n, s.heap.get? a = some (listObj vs n) ∧ RL c W vs l := by
  obtain ⟨o, ho, hr⟩ := M.at u
  cases hr with
  | list vs n _ r => exact ⟨vs, n, ho, r⟩

theorem M_append {a : Addr} (u : Upd a (.list l) (.list (l ++ [x])) cs cs') (hz : l.length ≤ 16777216) (q : Q .none cs') : Bi c A cs "list.append" [.ref a, x] Q := fun W F s vs M r => by
  cases r using RelL.consE with
  | cons v _ vs _ r rs => cases rs using RelL.consE with
    | cons z _ us _ r2 rs =>
      (first | cases rs using Rel.intE | cases rs using Rel.refE | cases rs using RelL.nilE | cases rs using Rel.strE | cases rs using Rel.bytesE | cases rs using Rel.noneE | cases rs using Rel.boolE | cases rs using Rel.listE | cases rs using Rel.tupE | cases rs using Rel.sdE | cases rs using Rel.iddE | cases rs using Rel.biE | cases rs using Rel.tyE | cases rs using Rel.rngE | cases rs); (first | cases r using Rel.intE | cases r using Rel.refE | cases r using RelL.nilE | cases r using Rel.strE | cases r using Rel.bytesE | cases r using Rel.noneE | cases r using Rel.boolE | cases r using Rel.listE | cases r using Rel.tupE | cases r using Rel.sdE | cases r using Rel.iddE | cases r using Rel.biE | cases r using Rel.tyE | cases r using Rel.rngE | cases r)
      obtain ⟨vs, n, ho, rl⟩ := ownL M u
      refine call_meets PySem.F.slot_list_append ⟨_, ho, rfl⟩ PySem.F.entry_list_append (PySem.F.args_list_append_2 _ _) (list_append a vs.toArray n z (by simp [RL.len rl, sizeL]; exact hz)) ⟨ho, ?_⟩
      exact here .none (updL M u ho (us := vs ++ [z]) (by simp) (rl.app (.cons _ _ _ _ r2 .nil)) s.toks) q
theorem M_extend {a : Addr} (h2 : IsL c cs y m) (u : Upd a (.list l) (.list (l ++ m)) cs cs') (hz : l.length + m.length ≤ 16777216) (q : Q .none cs') : Bi c A cs "list.extend" [.ref a, y] Q := fun W F s vs M r => by
  cases r using RelL.consE with
  | cons v _ vs _ r rs => cases rs using RelL.consE with
    | cons z _ us _ r2 rs =>
      (first | cases rs using Rel.intE | cases rs using Rel.refE | cases rs using RelL.nilE | cases rs using Rel.strE | cases rs using Rel.bytesE | cases rs using Rel.noneE | cases rs using Rel.boolE | cases rs using Rel.listE | cases rs using Rel.tupE | cases rs using Rel.sdE | cases rs using Rel.iddE | cases rs using Rel.biE | cases rs using Rel.tyE | cases rs using Rel.rngE | cases rs); (first | cases r using Rel.intE | cases r using Rel.refE | cases r using RelL.nilE | cases r using Rel.strE | cases r using Rel.bytesE | cases r using Rel.noneE | cases r using Rel.boolE | cases r using Rel.listE | cases r using Rel.tupE | cases r using Rel.sdE | cases r using Rel.iddE | cases r using Rel.biE | cases r using Rel.tyE | cases r using Rel.rngE | cases r)
      obtain ⟨vs, n, ho, rl⟩ := ownL M u
      obtain ⟨b, us, n2, rfl, hb, rb⟩ := h2 W F s z M r2
      refine call_meets PySem.F.slot_list_extend ⟨_, ho, rfl⟩ PySem.F.entry_list_extend (PySem.F.args_list_extend_2 _ _) (AutoSeq1.list_extend_list_list_0 a vs.toArray n b us.toArray n2 ?_ (by simp [RL.len rl, sizeL]; lia) (by simp [RL.len rl, RL.len rb, sizeL]; lia)) ⟨ho, hb, ?_⟩
      · unfold Builtin.List.listTooLong
        simp [RL.len rl, RL.len rb, sizeL]
        intro _; lia
      · exact here .none (updL M u ho (us := vs ++ us) (by simp) (rl.app rb) s.toks) q
theorem M_insert0 {a : Addr} (u : Upd a (.list l) (.list (x :: l)) cs cs') (hz : l.length ≤ 16777216) (q : Q .none cs') : Bi c A cs "list.insert" [.ref a, .int 0, x] Q := fun W F s vs M r => by
  cases r using RelL.consE with
  | cons v _ vs _ r rs => cases rs using RelL.consE with
    | cons z _ us _ r2 rs => cases rs using RelL.consE with
      | cons z3 _ us _ r3 rs =>
        (first | cases rs using Rel.intE | cases rs using Rel.refE | cases rs using RelL.nilE | cases rs using Rel.strE | cases rs using Rel.bytesE | cases rs using Rel.noneE | cases rs using Rel.boolE | cases rs using Rel.listE | cases rs using Rel.tupE | cases rs using Rel.sdE | cases rs using Rel.iddE | cases rs using Rel.biE | cases rs using Rel.tyE | cases rs using Rel.rngE | cases rs); (first | cases r using Rel.intE | cases r using Rel.refE | cases r using RelL.nilE | cases r using Rel.strE | cases r using Rel.bytesE | cases r using Rel.noneE | cases r using Rel.boolE | cases r using Rel.listE | cases r using Rel.tupE | cases r using Rel.sdE | cases r using Rel.iddE | cases r using Rel.biE | cases r using Rel.tyE | cases r using Rel.rngE | cases r); (first | cases r2 using Rel.intE | cases r2 using Rel.refE | cases r2 using RelL.nilE | cases r2 using Rel.strE | cases r2 using Rel.bytesE | cases r2 using Rel.noneE | cases r2 using Rel.boolE | cases r2 using Rel.listE | cases r2 using Rel.tupE | cases r2 using Rel.sdE | cases r2 using Rel.iddE | cases r2 using Rel.biE | cases r2 using Rel.tyE | cases r2 using Rel.rngE | cases r2)
        obtain ⟨vs, n, ho, rl⟩ := ownL M u
        refine call_meets PySem.F.slot_list_insert ⟨_, ho, rfl⟩ PySem.F.entry_list_insert (PySem.F.args_list_insert_3 _ _ _) (AutoSeq1.list_insert_list_int_val_1 a vs.toArray n 0 _ z3 (by decide) (by simp [RL.len rl, sizeL]; exact hz)) ⟨ho, ?_⟩
        exact here .none (updL M u ho (us := z3 :: vs) (by simp) (.cons _ _ _ _ r3 rl) s.toks) q
theorem M_pop0 {a : Addr} (u : Upd a (.list (x :: l)) (.list l) cs cs') (hz : l.length < 16777216) (q : Q x cs') : Bi c A cs "list.pop" [.ref a, .int 0] Q := fun W F s vs M r => by
  cases r using RelL.consE with
  | cons v _ vs _ r rs => cases rs using RelL.consE with
    | cons z _ us _ r2 rs =>
      (first | cases rs using Rel.intE | cases rs using Rel.refE | cases rs using RelL.nilE | cases rs using Rel.strE | cases rs using Rel.bytesE | cases rs using Rel.noneE | cases rs using Rel.boolE | cases rs using Rel.listE | cases rs using Rel.tupE | cases rs using Rel.sdE | cases rs using Rel.iddE | cases rs using Rel.biE | cases rs using Rel.tyE | cases rs using Rel.rngE | cases rs); (first | cases r using Rel.intE | cases r using Rel.refE | cases r using RelL.nilE | cases r using Rel.strE | cases r using Rel.bytesE | cases r using Rel.noneE | cases r using Rel.boolE | cases r using Rel.listE | cases r using Rel.tupE | cases r using Rel.sdE | cases r using Rel.iddE | cases r using Rel.biE | cases r using Rel.tyE | cases r using Rel.rngE | cases r); (first | cases r2 using Rel.intE | cases r2 using Rel.refE | cases r2 using RelL.nilE | cases r2 using Rel.strE | cases r2 using Rel.bytesE | cases r2 using Rel.noneE | cases r2 using Rel.boolE | cases r2 using Rel.listE | cases r2 using Rel.tupE | cases r2 using Rel.sdE | cases r2 using Rel.iddE | cases r2 using Rel.biE | cases r2 using Rel.tyE | cases r2 using Rel.rngE | cases r2)
      obtain ⟨vs, n, ho, rl⟩ := ownL M u
      cases rl using RelL.consE with
      | cons v0 _ vs _ r0 rl =>
        refine call_meets PySem.F.slot_list_pop ⟨_, ho, rfl⟩ PySem.F.entry_list_pop (PySem.F.args_list_pop_2 _ _) (MeetsSeq.list_pop_at a (v0 :: vs).toArray n 0 _ 0 v0 (by decide) (seqIdx (by lia) (by simp)) rfl (by simp [RL.len rl, sizeL]; lia)) ⟨ho, ?_⟩
        exact here r0 (updL M u ho (us := vs) (by simp) rl s.toks) q
end
end U

/-! ## U13 -/
namespace U
open PySem PyProof.Rows PySem.Calls

section
open PySem.StrLaws PySem.Builtin.Str
theorem occ_full (s sub : Str) (hi limit : Nat) : ∀ (l : List Nat) (st : Array Nat × Nat), ¬ st.fst.size < limit → (forIn l st (occBody s sub hi limit)).run.fst = st.fst
  | [], st, h => rfl
  | a :: l, st, h => by
    rw [List.forIn_cons]
    unfold occBody
    rw [if_neg (fun h' => h h'.1.1.1)]
    exact occ_full s sub hi limit l _ h
theorem occ_at (s : Str) (d k : Nat) (hk : s.cps.toList[k]? = some d) : ∀ (m i r : Nat), i + m = k → (∀ j, i ≤ j → j < k → s.cps.toList[j]? ≠ some d) →
    (forIn (List.range' i (m + 1 + r)) ((#[] : Array Nat), 0) (occBody s ⟨#[d]⟩ s.length 1)).run.fst = #[k]
  | 0, i, r, he, hn => by
    have : i = k := by lia
    subst this
    rw [show 0 + 1 + r = r + 1 by lia, List.range'_succ, List.forIn_cons]
    have hm := (subAt_one s d i).mpr hk
    unfold occBody
    rw [if_pos ⟨⟨⟨by simp, Nat.zero_le _⟩, hm.1⟩, hm.2⟩]
    exact occ_full s _ s.length 1 _ _ (by simp)
  | m + 1, i, r, he, hn => by
    rw [show m + 1 + 1 + r = (m + 1 + r) + 1 by lia, List.range'_succ, List.forIn_cons]
    have hm : ¬ _ := fun h => hn i (Nat.le_refl _) (by lia) ((subAt_one s d i).mp h)
    unfold occBody
    rw [if_neg (fun h => hm ⟨h.1.2, h.2⟩)]
    exact occ_at s d k hk m (i + 1) r (by lia) fun j h1 h2 => hn j (by lia) h2
theorem find_at (s : Str) (d k : Nat) (hk : s.cps.toList[k]? = some d) (hn : ∀ j, j < k → s.cps.toList[j]? ≠ some d) : occurrences s ⟨#[d]⟩ 0 s.length 1 = [k] := by
  have hlt : k < s.cps.toList.length := (List.getElem?_eq_some_iff.mp hk).1
  have hl : s.length = s.cps.toList.length := by simp [Str.length]
  rw [occ_eq]
  have := occ_at s d k hk k 0 (s.length - k) (by lia) fun j _ h2 => hn j h2
  rw [show s.length + 1 - 0 = k + 1 + (s.length - k) by lia, this]
end

section
variable {c : Cx} {α β : Type} {A : Around} {cs cs' : Cs} {env : Env} {i j : Int} {x y : V} {l m : List V} {a b : List Nat} {Q : V → Cs → Prop} {QB : Bool → Cs → Prop} {QU : Unit → Cs → Prop}

theorem M_find {k d : Nat} (hk : a[k]? = some d) (hn : ∀ j, j < k → a[j]? ≠ some d) (q : Q (.int k) cs) : Bi c A cs "str.find" [.str a, .str [d]] Q := fun W F s vs M r => by
  cases r using RelL.consE with
  | cons v _ vs _ r rs => cases rs using RelL.consE with
    | cons u _ us _ r2 rs => (first | cases rs using Rel.intE | cases rs using Rel.refE | cases rs using RelL.nilE | cases rs using Rel.strE | cases rs using Rel.bytesE | cases rs using Rel.noneE | cases rs using Rel.boolE | cases rs using Rel.listE | cases rs using Rel.tupE | cases rs using Rel.sdE | cases rs using Rel.iddE | cases rs using Rel.biE | cases rs using Rel.tyE | cases rs using Rel.rngE | cases rs); cases r using Rel.strE with
      | str x t _ e => cases r2 using Rel.strE with
        | str y t2 _ e2 =>
          have hy : y = ⟨#[d]⟩ := strEq e2
          subst hy e
          refine call_gives PySem.F.slot_str_find (typeIs_str _ _ _) PySem.F.entry_str_find (PySem.F.args_str_find_2 _ _) (gives_str_find _ _ _ _) ?_
          rw [find_at x d k hk hn]
          exact here (.int _ _) (M.toks _) q
theorem M_find0 {d : Nat} (hn : d ∉ a) (q : Q (.int (-1)) cs) : Bi c A cs "str.find" [.str a, .str [d]] Q := fun W F s vs M r => by
  cases r using RelL.consE with
  | cons v _ vs _ r rs => cases rs using RelL.consE with
    | cons u _ us _ r2 rs => (first | cases rs using Rel.intE | cases rs using Rel.refE | cases rs using RelL.nilE | cases rs using Rel.strE | cases rs using Rel.bytesE | cases rs using Rel.noneE | cases rs using Rel.boolE | cases rs using Rel.listE | cases rs using Rel.tupE | cases rs using Rel.sdE | cases rs using Rel.iddE | cases rs using Rel.biE | cases rs using Rel.tyE | cases rs using Rel.rngE | cases rs); cases r using Rel.strE with
      | str x t _ e => cases r2 using Rel.strE with
        | str y t2 _ e2 =>
          have hy : y = ⟨#[d]⟩ := strEq e2
          subst hy e
          refine call_gives PySem.F.slot_str_find (typeIs_str _ _ _) PySem.F.entry_str_find (PySem.F.args_str_find_2 _ _) (gives_str_find _ _ _ _) ?_
          have := StrLaws.found_one x d
          rw [decide_eq_false hn] at this
          have h2 : Builtin.Str.occurrences x ⟨#[d]⟩ 0 x.length 1 = [] := by simpa using this
          rw [h2]
          exact here (.int _ _) (M.toks _) q

/-! ### items put -/
theorem SI_list {o : Addr} {k : Nat} (h0 : 0 ≤ i) (hk : i.toNat < l.length) (h1 : i < 2 ^ 63) (u : Upd o (.list l) (.list (l.set i.toNat x)) cs cs') (q : QU () cs') : Op3 c A cs setItem (.ref o) (.int i) x RU QU := by
  intro W F s v w r M r1 r2 r3
  (first | cases r1 using Rel.intE | cases r1 using Rel.refE | cases r1 using RelL.nilE | cases r1 using Rel.strE | cases r1 using Rel.bytesE | cases r1 using Rel.noneE | cases r1 using Rel.boolE | cases r1 using Rel.listE | cases r1 using Rel.tupE | cases r1 using Rel.sdE | cases r1 using Rel.iddE | cases r1 using Rel.biE | cases r1 using Rel.tyE | cases r1 using Rel.rngE | cases r1); (first | cases r2 using Rel.intE | cases r2 using Rel.refE | cases r2 using RelL.nilE | cases r2 using Rel.strE | cases r2 using Rel.bytesE | cases r2 using Rel.noneE | cases r2 using Rel.boolE | cases r2 using Rel.listE | cases r2 using Rel.tupE | cases r2 using Rel.sdE | cases r2 using Rel.iddE | cases r2 using Rel.biE | cases r2 using Rel.tyE | cases r2 using Rel.rngE | cases r2)
  obtain ⟨vs, n, ho, rl⟩ := ownL M u
  rename_i t
  have hT : s.TypeIs (.ref o) "list" := ⟨_, ho, rfl⟩
  unfold setItem
  try with_reducible refine wpAny_holding ?_
  first | refine wpAny_bind (wpAny_pure ?_) | skip
  refine wpAny_bind (wpAny_sequenceKey hT (by decide) ?_)
  refine wpAny_bind (wpAny_callSpecial?_slot (name := Str.ofString "__setitem__") hT slot_list_setitem
    (wpAny_call_entry slot_list_setitem hT entry_list_setitem ?_ (args_list_setitem _ _ _)))
  show wpAny _ _ (Builtin.List.listSubscript? (.int i t) >>= _) _ _ s
  refine wpAny_bind (wpAny_listSubscript_int (fitsIndex_of h0 h1) ?_)
  obtain ⟨j, rfl⟩ := Int.eq_ofNat_of_zero_le h0
  have hj : j < vs.toArray.size := by simp [RL.len rl]; simpa using hk
  have hx' : vs.toArray[j]? = some vs.toArray[j] := Array.getElem?_eq_getElem hj
  show wpAny _ _ ((seqItemAt o j >>= fun r => pure (r.map (j, ·))) >>= _) _ _ s
  refine wpAny_bind (wpAny_bind (wpAny_seqItemAt ho rfl (wpAny_pure ?_)))
  rw [hx']
  show wpAny _ _ (setSeqItemAt o j r >>= _) _ _ s
  have rset : ∀ {vs : List Value} {l : List V} (j : Nat), RL c W vs l → RL c W (vs.set j r) (l.set j x) := by
    intro vs
    induction vs with
    | nil => intro l j h; cases h; exact .nil
    | cons v vs ih =>
      intro l j h
      cases h with
      | cons _ z _ l rz rs => cases j with
        | zero => exact .cons _ _ _ _ r3 rs
        | succ j => exact .cons _ _ _ _ rz (ih j rs)
  have M2 := updL M u ho (f := (·.setIfInBounds j r)) (us := vs.set j r) (by simp) (rset j rl) s.toks
  refine wpAny_bind (wpAny_setSeqItemAt ho rfl ?_)
  first
    | exact wpAny_bind (wpAny_pure (wpAny_pure ⟨.none, rfl, wpAny_pure (here trivial M2 q)⟩))
    | exact wpAny_pure ⟨.none, rfl, wpAny_pure (here trivial M2 q)⟩

theorem SI_listNeg {o : Addr} {k : Nat} (h0 : i < 0) (hk : -(l.length : Int) ≤ i) (h1 : l.length ≤ 16777216) (u : Upd o (.list l) (.list (l.set (i + l.length).toNat x)) cs cs') (q : QU () cs') : Op3 c A cs setItem (.ref o) (.int i) x RU QU := by
  intro W F s v w r M r1 r2 r3
  (first | cases r1 using Rel.intE | cases r1 using Rel.refE | cases r1 using RelL.nilE | cases r1 using Rel.strE | cases r1 using Rel.bytesE | cases r1 using Rel.noneE | cases r1 using Rel.boolE | cases r1 using Rel.listE | cases r1 using Rel.tupE | cases r1 using Rel.sdE | cases r1 using Rel.iddE | cases r1 using Rel.biE | cases r1 using Rel.tyE | cases r1 using Rel.rngE | cases r1); (first | cases r2 using Rel.intE | cases r2 using Rel.refE | cases r2 using RelL.nilE | cases r2 using Rel.strE | cases r2 using Rel.bytesE | cases r2 using Rel.noneE | cases r2 using Rel.boolE | cases r2 using Rel.listE | cases r2 using Rel.tupE | cases r2 using Rel.sdE | cases r2 using Rel.iddE | cases r2 using Rel.biE | cases r2 using Rel.tyE | cases r2 using Rel.rngE | cases r2)
  obtain ⟨vs, n, ho, rl⟩ := ownL M u
  rename_i t
  have hT : s.TypeIs (.ref o) "list" := ⟨_, ho, rfl⟩
  have hsz : vs.toArray.size = l.length := by simp [RL.len rl]
  unfold setItem
  try with_reducible refine wpAny_holding ?_
  first | refine wpAny_bind (wpAny_pure ?_) | skip
  refine wpAny_bind (wpAny_sequenceKey hT (by decide) ?_)
  refine wpAny_bind (wpAny_callSpecial?_slot (name := Str.ofString "__setitem__") hT slot_list_setitem
    (wpAny_call_entry slot_list_setitem hT entry_list_setitem ?_ (args_list_setitem _ _ _)))
  show wpAny _ _ (Builtin.List.listSubscript? (.int i t) >>= _) _ _ s
  refine wpAny_bind (wpAny_listSubscript_int (fitsIndex_neg h0 (by lia)) ?_)
  have hidx := seqIdxNeg (n := vs.toArray.size) h0 (by rw [hsz]; exact hk)
  obtain ⟨j, rfl⟩ : ∃ j : Nat, i = Int.negSucc j := by
    cases i with
    | ofNat n => exact absurd h0 (Int.not_lt.mpr (Int.ofNat_nonneg n))
    | negSucc n => exact ⟨n, rfl⟩
  show wpAny _ _ ((Builtin.List.listItems (.ref o) >>= fun xs => pure ((seqIndex? (Int.negSucc j) xs.size).bind fun i => xs[i]?.map (i, ·))) >>= _) _ _ s
  refine wpAny_bind (wpAny_bind ?_)
  show wpAny _ _ (seqItems? (.ref o) >>= _) _ _ s
  refine wpAny_bind (wpAny_seqItems ho rfl (wpAny_pure (wpAny_pure ?_)))
  rw [hidx]
  have hlt : (Int.negSucc j + (vs.toArray.size : Nat)).toNat < vs.toArray.size := by rw [hsz]; lia
  simp only [Option.bind_some, Array.getElem?_eq_getElem hlt, Option.map_some]
  rw [hsz]
  generalize (Int.negSucc j + (l.length : Nat)).toNat = k at u ⊢
  show wpAny _ _ (setSeqItemAt o k r >>= _) _ _ s
  have rset : ∀ {vs : List Value} {l : List V} (j : Nat), RL c W vs l → RL c W (vs.set j r) (l.set j x) := by
    intro vs
    induction vs with
    | nil => intro l j h; cases h; exact .nil
    | cons v vs ih =>
      intro l j h
      cases h with
      | cons _ z _ l rz rs => cases j with
        | zero => exact .cons _ _ _ _ r3 rs
        | succ j => exact .cons _ _ _ _ rz (ih j rs)
  have M2 := updL M u ho (f := (·.setIfInBounds k r)) (us := vs.set k r) (by simp) (rset k rl) s.toks
  refine wpAny_bind (wpAny_setSeqItemAt ho rfl ?_)
  first
    | exact wpAny_bind (wpAny_pure (wpAny_pure ⟨.none, rfl, wpAny_pure (here trivial M2 q)⟩))
    | exact wpAny_pure ⟨.none, rfl, wpAny_pure (here trivial M2 q)⟩

end
end U

/-! ## U14 -/
namespace U
open PySem PyProof.Rows PySem.Calls

section
variable {c : Cx} {α β : Type} {A : Around} {cs cs' : Cs} {env : Env} {i j : Int} {x y : V} {l m : List V} {a b : List Nat} {Q : V → Cs → Prop} {QB : Bool → Cs → Prop} {QU : Unit → Cs → Prop}

theorem RL.ints {W : Wd} {vs : List Value} {ns : List Int} (h : RL c W vs (ns.map V.int)) : IntsAre vs ns := by
  induction ns generalizing vs with
  | nil => cases h; exact .nil
  | cons n ns ih => cases h with
    | cons v _ vs _ r rs => (first | cases r using Rel.intE | cases r using Rel.refE | cases r using RelL.nilE | cases r using Rel.strE | cases r using Rel.bytesE | cases r using Rel.noneE | cases r using Rel.boolE | cases r using Rel.listE | cases r using Rel.tupE | cases r using Rel.sdE | cases r using Rel.iddE | cases r using Rel.biE | cases r using Rel.tyE | cases r using Rel.rngE | cases r); exact .cons _ _ (ih rs)
theorem RL.strs {W : Wd} {vs : List Value} {ns : List (List Nat)} (h : RL c W vs (ns.map V.str)) : StrsAre vs (ns.map mkS) := by
  induction ns generalizing vs with
  | nil => cases h; exact .nil
  | cons n ns ih => cases h with
    | cons v _ vs _ r rs => cases r using Rel.strE with
      | str x t _ e =>
        have : x = mkS n := strEq (by rw [e]; simp [mkS])
        subst this
        exact .cons _ _ (ih rs)

/-- bytes of ints -/
theorem T_bytes {ns : List Nat} (hA : A.handled = none) (h : IsL c cs x (ns.map fun (n : Nat) => V.int n)) (hr : ∀ n ∈ ns, n < 256) (hz : ns.length ≤ 16777216) (q : Q (.bytes ns) cs) : Ty c A cs "bytes" [x] Q := fun W F s vs M r => by
  cases r using RelL.consE with
  | cons v _ vs _ r rs =>
    (first | cases rs using Rel.intE | cases rs using Rel.refE | cases rs using RelL.nilE | cases rs using Rel.strE | cases rs using Rel.bytesE | cases rs using Rel.noneE | cases rs using Rel.boolE | cases rs using Rel.listE | cases rs using Rel.tupE | cases rs using Rel.sdE | cases rs using Rel.iddE | cases rs using Rel.biE | cases rs using Rel.tyE | cases rs using Rel.rngE | cases rs)
    obtain ⟨o, vs, n, rfl, ho, rl⟩ := h W F s v M r
    have hi : IntsAre vs (ns.map fun (n : Nat) => (n : Int)) := RL.ints (c := c) (W := W) (by rw [List.map_map]; exact rl)
    refine call_bytes_ints ⟨_, ho, rfl, n, rfl⟩ hi (fun k hk => ?_) (by rw [RL.len rl, sizeL]; simpa using hz) hA fun h' t k hk => ?_
    · obtain ⟨z, hz, rfl⟩ := List.mem_map.mp hk
      have := hr z hz
      lia
    · have fr := M.fresh
      refine here (.bytes _ _ _ ?_) (M.step fr.1 fr.2.1 fr.2.2 (fun b o _ e => hk b o e) k) q
      unfold byteArr
      rw [List.map_map, List.map_map]
      have : ∀ z ∈ ns, (UInt8.toNat ∘ (fun n : Int => n.toNat.toUInt8) ∘ fun (n : Nat) => (n : Int)) z = z := by
        intro z hz
        have := hr z hz
        show (UInt8.ofNat z).toNat = z
        rw [UInt8.toNat_ofNat']
        lia
      exact (List.map_congr_left this).trans (by simp)

theorem C_inT {ns : List Int} (q : QB (decide (i ∈ ns)) cs) : Cmp c A cs .In (.int i) (.tup (ns.map V.int)) QB := fun W F s v u M r1 r2 => by
  (first | cases r1 using Rel.intE | cases r1 using Rel.refE | cases r1 using RelL.nilE | cases r1 using Rel.strE | cases r1 using Rel.bytesE | cases r1 using Rel.noneE | cases r1 using Rel.boolE | cases r1 using Rel.listE | cases r1 using Rel.tupE | cases r1 using Rel.sdE | cases r1 using Rel.iddE | cases r1 using Rel.biE | cases r1 using Rel.tyE | cases r1 using Rel.rngE | cases r1); cases r2 using Rel.tupE with
  | tup o vs n _ h r =>
    refine in_tuple_ints (items := vs.toArray) ⟨_, M.hw _ _ h, rfl, n, rfl⟩ (RL.ints r) (here (.bool _) M ⟨_, rfl, ?_⟩)
    rw [show (ns.any (· == i)) = decide (i ∈ ns) from (by rw [Bool.eq_iff_iff]; simp)]
    exact q
theorem C_ninTS {ns : List (List Nat)} (q : QB (decide (a ∉ ns)) cs) : Cmp c A cs .NotIn (.str a) (.tup (ns.map V.str)) QB := fun W F s v u M r1 r2 => by
  cases r1 using Rel.strE with
  | str x t _ e => cases r2 using Rel.tupE with
    | tup o vs n _ h r =>
      refine notin_tuple_strs (items := vs.toArray) ⟨_, M.hw _ _ h, rfl, n, rfl⟩ (RL.strs r) (here (.bool _) M ⟨_, rfl, ?_⟩)
      have : (!((ns.map mkS).any (· == x))) = decide (a ∉ ns) := by
        rw [Bool.eq_iff_iff]
        simp only [Bool.not_eq_true', List.any_eq_false, List.mem_map, beq_iff_eq, decide_eq_true_eq]
        constructor
        · intro h hm
          exact h (mkS a) ⟨a, hm, rfl⟩ (strEq (by rw [e]; simp [mkS]))
        · rintro h z ⟨w, hw, rfl⟩ rfl
          apply h
          rw [← e]; simpa [mkS] using hw
      rw [this]; exact q

theorem C_isNone (q : QB true cs) : Cmp c A cs .Is .none .none QB := fun W F s v u M r1 r2 => by
  (first | cases r1 using Rel.intE | cases r1 using Rel.refE | cases r1 using RelL.nilE | cases r1 using Rel.strE | cases r1 using Rel.bytesE | cases r1 using Rel.noneE | cases r1 using Rel.boolE | cases r1 using Rel.listE | cases r1 using Rel.tupE | cases r1 using Rel.sdE | cases r1 using Rel.iddE | cases r1 using Rel.biE | cases r1 using Rel.tyE | cases r1 using Rel.rngE | cases r1); (first | cases r2 using Rel.intE | cases r2 using Rel.refE | cases r2 using RelL.nilE | cases r2 using Rel.strE | cases r2 using Rel.bytesE | cases r2 using Rel.noneE | cases r2 using Rel.boolE | cases r2 using Rel.listE | cases r2 using Rel.tupE | cases r2 using Rel.sdE | cases r2 using Rel.iddE | cases r2 using Rel.biE | cases r2 using Rel.tyE | cases r2 using Rel.rngE | cases r2); exact wpAny_is_self rfl (here (.bool _) M ⟨_, rfl, q⟩)
theorem C_isTup {l : List V} (q : QB false cs) : Cmp c A cs .Is (.tup l) .none QB := fun W F s v u M r1 r2 => by
  (first | cases r1 using Rel.intE | cases r1 using Rel.refE | cases r1 using RelL.nilE | cases r1 using Rel.strE | cases r1 using Rel.bytesE | cases r1 using Rel.noneE | cases r1 using Rel.boolE | cases r1 using Rel.listE | cases r1 using Rel.tupE | cases r1 using Rel.sdE | cases r1 using Rel.iddE | cases r1 using Rel.biE | cases r1 using Rel.tyE | cases r1 using Rel.rngE | cases r1); (first | cases r2 using Rel.intE | cases r2 using Rel.refE | cases r2 using RelL.nilE | cases r2 using Rel.strE | cases r2 using Rel.bytesE | cases r2 using Rel.noneE | cases r2 using Rel.boolE | cases r2 using Rel.listE | cases r2 using Rel.tupE | cases r2 using Rel.sdE | cases r2 using Rel.iddE | cases r2 using Rel.biE | cases r2 using Rel.tyE | cases r2 using Rel.rngE | cases r2); exact wpAny_is_other rfl (by intro x; cases x) (here (.bool _) M ⟨_, rfl, q⟩)

/-! ### range, int, str, abs, max, min -/
theorem T_range1 (q : Q (.rng 0 i) cs) : Ty c A cs "range" [.int i] Q := fun W F s vs M r => by
  cases r using RelL.consE with
  | cons v _ vs _ r rs =>
    (first | cases rs using Rel.intE | cases rs using Rel.refE | cases rs using RelL.nilE | cases rs using Rel.strE | cases rs using Rel.bytesE | cases rs using Rel.noneE | cases rs using Rel.boolE | cases rs using Rel.listE | cases rs using Rel.tupE | cases rs using Rel.sdE | cases rs using Rel.iddE | cases rs using Rel.biE | cases rs using Rel.tyE | cases rs using Rel.rngE | cases rs); (first | cases r using Rel.intE | cases r using Rel.refE | cases r using RelL.nilE | cases r using Rel.strE | cases r using Rel.bytesE | cases r using Rel.noneE | cases r using Rel.boolE | cases r using Rel.listE | cases r using Rel.tupE | cases r using Rel.sdE | cases r using Rel.iddE | cases r using Rel.biE | cases r using Rel.tyE | cases r using Rel.rngE | cases r)
    refine call_range_1 ?_
    obtain ⟨M', l'⟩ := M.pushW (rngObj 0 i _ _ _)
    exact ⟨_, _, _, l', .rng _ 0 i _ _ _ (by unfold Wd.put; rw [if_pos rfl]), M'.toks _, q⟩
theorem T_range2 (q : Q (.rng i j) cs) : Ty c A cs "range" [.int i, .int j] Q := fun W F s vs M r => by
  cases r using RelL.consE with
  | cons v _ vs _ r rs => cases rs using RelL.consE with
    | cons v _ vs _ r2 rs =>
      (first | cases rs using Rel.intE | cases rs using Rel.refE | cases rs using RelL.nilE | cases rs using Rel.strE | cases rs using Rel.bytesE | cases rs using Rel.noneE | cases rs using Rel.boolE | cases rs using Rel.listE | cases rs using Rel.tupE | cases rs using Rel.sdE | cases rs using Rel.iddE | cases rs using Rel.biE | cases rs using Rel.tyE | cases rs using Rel.rngE | cases rs); (first | cases r using Rel.intE | cases r using Rel.refE | cases r using RelL.nilE | cases r using Rel.strE | cases r using Rel.bytesE | cases r using Rel.noneE | cases r using Rel.boolE | cases r using Rel.listE | cases r using Rel.tupE | cases r using Rel.sdE | cases r using Rel.iddE | cases r using Rel.biE | cases r using Rel.tyE | cases r using Rel.rngE | cases r); (first | cases r2 using Rel.intE | cases r2 using Rel.refE | cases r2 using RelL.nilE | cases r2 using Rel.strE | cases r2 using Rel.bytesE | cases r2 using Rel.noneE | cases r2 using Rel.boolE | cases r2 using Rel.listE | cases r2 using Rel.tupE | cases r2 using Rel.sdE | cases r2 using Rel.iddE | cases r2 using Rel.biE | cases r2 using Rel.tyE | cases r2 using Rel.rngE | cases r2)
      refine call_range_2 ?_
      obtain ⟨M', l'⟩ := M.pushW (rngObj i j _ _ _)
      exact ⟨_, _, _, l', .rng _ i j _ _ _ (by unfold Wd.put; rw [if_pos rfl]), M'.toks _, q⟩
theorem T_int (q : Q (.int i) cs) : Ty c A cs "int" [.int i] Q := fun W F s vs M r => by
  cases r using RelL.consE with
  | cons v _ vs _ r rs =>
    (first | cases rs using Rel.intE | cases rs using Rel.refE | cases rs using RelL.nilE | cases rs using Rel.strE | cases rs using Rel.bytesE | cases rs using Rel.noneE | cases rs using Rel.boolE | cases rs using Rel.listE | cases rs using Rel.tupE | cases rs using Rel.sdE | cases rs using Rel.iddE | cases rs using Rel.biE | cases rs using Rel.tyE | cases rs using Rel.rngE | cases rs); (first | cases r using Rel.intE | cases r using Rel.refE | cases r using RelL.nilE | cases r using Rel.strE | cases r using Rel.bytesE | cases r using Rel.noneE | cases r using Rel.boolE | cases r using Rel.listE | cases r using Rel.tupE | cases r using Rel.sdE | cases r using Rel.iddE | cases r using Rel.biE | cases r using Rel.tyE | cases r using Rel.rngE | cases r)
    exact call_int_int (here (.int _ _) M q)
theorem T_strInt {k : Nat} (h : k < 10) (q : Q (.str [48 + k]) cs) : Ty c A cs "str" [.int k] Q := fun W F s vs M r => by
  cases r using RelL.consE with
  | cons v _ vs _ r rs =>
    (first | cases rs using Rel.intE | cases rs using Rel.refE | cases rs using RelL.nilE | cases rs using Rel.strE | cases rs using Rel.bytesE | cases rs using Rel.noneE | cases rs using Rel.boolE | cases rs using Rel.listE | cases rs using Rel.tupE | cases rs using Rel.sdE | cases rs using Rel.iddE | cases rs using Rel.biE | cases rs using Rel.tyE | cases rs using Rel.rngE | cases rs); (first | cases r using Rel.intE | cases r using Rel.refE | cases r using RelL.nilE | cases r using Rel.strE | cases r using Rel.bytesE | cases r using Rel.noneE | cases r using Rel.boolE | cases r using Rel.listE | cases r using Rel.tupE | cases r using Rel.sdE | cases r using Rel.iddE | cases r using Rel.biE | cases r using Rel.tyE | cases r using Rel.rngE | cases r)
    refine PySem.P.str_of_int ?_ (here (.str _ _ _ ?_) (M.toks _) q)
    · have : ∀ k : Nat, k < 10 → ((k : Int).natAbs.log2) < 1920 := by decide
      exact this k h
    · have : ∀ k : Nat, k < 10 → (toString (k : Int) : Str).cps.toList = [48 + k] := by decide +kernel
      exact this k h
theorem B_abs (q : Q (.int (if i < 0 then -i else i)) cs) : Bi c A cs "abs" [.int i] Q := fun W F s vs M r => by
  cases r using RelL.consE with
  | cons v _ vs _ r rs =>
    (first | cases rs using Rel.intE | cases rs using Rel.refE | cases rs using RelL.nilE | cases rs using Rel.strE | cases rs using Rel.bytesE | cases rs using Rel.noneE | cases rs using Rel.boolE | cases rs using Rel.listE | cases rs using Rel.tupE | cases rs using Rel.sdE | cases rs using Rel.iddE | cases rs using Rel.biE | cases rs using Rel.tyE | cases rs using Rel.rngE | cases rs); (first | cases r using Rel.intE | cases r using Rel.refE | cases r using RelL.nilE | cases r using Rel.strE | cases r using Rel.bytesE | cases r using Rel.noneE | cases r using Rel.boolE | cases r using Rel.listE | cases r using Rel.tupE | cases r using Rel.sdE | cases r using Rel.iddE | cases r using Rel.biE | cases r using Rel.tyE | cases r using Rel.rngE | cases r)
    exact call_abs_int fun u tk => here (.int _ _) (M.toks _) q
theorem B_max (hA : A.handled = none) (q : Q (.int (if j > i then j else i)) cs) : Bi c A cs "max" [.int i, .int j] Q := fun W F s vs M r => by
  cases r using RelL.consE with
  | cons v _ vs _ r rs => cases rs using RelL.consE with
    | cons v _ vs _ r2 rs =>
      (first | cases rs using Rel.intE | cases rs using Rel.refE | cases rs using RelL.nilE | cases rs using Rel.strE | cases rs using Rel.bytesE | cases rs using Rel.noneE | cases rs using Rel.boolE | cases rs using Rel.listE | cases rs using Rel.tupE | cases rs using Rel.sdE | cases rs using Rel.iddE | cases rs using Rel.biE | cases rs using Rel.tyE | cases rs using Rel.rngE | cases rs); (first | cases r using Rel.intE | cases r using Rel.refE | cases r using RelL.nilE | cases r using Rel.strE | cases r using Rel.bytesE | cases r using Rel.noneE | cases r using Rel.boolE | cases r using Rel.listE | cases r using Rel.tupE | cases r using Rel.sdE | cases r using Rel.iddE | cases r using Rel.biE | cases r using Rel.tyE | cases r using Rel.rngE | cases r); (first | cases r2 using Rel.intE | cases r2 using Rel.refE | cases r2 using RelL.nilE | cases r2 using Rel.strE | cases r2 using Rel.bytesE | cases r2 using Rel.noneE | cases r2 using Rel.boolE | cases r2 using Rel.listE | cases r2 using Rel.tupE | cases r2 using Rel.sdE | cases r2 using Rel.iddE | cases r2 using Rel.biE | cases r2 using Rel.tyE | cases r2 using Rel.rngE | cases r2)
      refine max_two_ints hA fun h' tk hk => ?_
      have fr := M.fresh
      refine here ?_ (M.step fr.1 fr.2.1 fr.2.2 (fun b o _ e => hk b o e) tk) q
      split <;> exact .int _ _
theorem join_flat : ∀ ns : List (List Nat), (Builtin.Str.glued (Str.ofString "") (ns.map mkS)).cps.toList = ns.flatten := by
  have go : ∀ (ns : List (List Nat)) (z : Array Nat), ((ns.map mkS).foldl (fun acc p => acc ++ (Str.ofString "").cps ++ p.cps) z).toList = z.toList ++ ns.flatten := by
    intro ns
    induction ns with
    | nil => intro z; simp
    | cons n ns ih =>
      intro z
      rw [List.map_cons, List.foldl_cons, ih]
      have : (Str.ofString "").cps = #[] := by decide +kernel
      rw [this]
      simp [mkS]
  intro ns
  cases ns with
  | nil => decide +kernel
  | cons n ns =>
    show (((ns.map mkS)).foldl (fun acc p => acc ++ (Str.ofString "").cps ++ p.cps) (mkS n).cps).toList = _
    rw [go]
    simp [mkS]

theorem M_joinS {ns : List (List Nat)} (h : IsL c cs x (ns.map V.str)) (hz : (ns.map List.length).sum + ns.length ≤ 16777216) (q : Q (.str ns.flatten) cs) : Bi c A cs "str.join" [.str [], x] Q := fun W F s vs M r => by
  cases r using RelL.consE with
  | cons v _ vs _ r rs => cases rs using RelL.consE with
    | cons u _ us _ r2 rs =>
      (first | cases rs using Rel.intE | cases rs using Rel.refE | cases rs using RelL.nilE | cases rs using Rel.strE | cases rs using Rel.bytesE | cases rs using Rel.noneE | cases rs using Rel.boolE | cases rs using Rel.listE | cases rs using Rel.tupE | cases rs using Rel.sdE | cases rs using Rel.iddE | cases rs using Rel.biE | cases rs using Rel.tyE | cases rs using Rel.rngE | cases rs); cases r using Rel.strE with
      | str z t _ e =>
        obtain ⟨o, vs, n, rfl, ho, rl⟩ := h W F s u M r2
        have hzz : z = Str.ofString "" := strEq (by rw [e]; decide +kernel)
        subst hzz
        refine join_list (items := vs.toArray) ⟨_, ho, rfl, n, rfl⟩ (RL.strs rl) ?_ fun t' k => here (.str _ _ _ (join_flat ns)) (M.toks _) q
        have h0 : (Str.ofString "").length = 0 := by decide +kernel
        rw [h0, List.map_map]
        have : (List.length ∘ id) = (List.length : List Nat → Nat) := rfl
        have e2 : (ns.map (Str.length ∘ mkS)) = ns.map List.length := List.map_congr_left fun z _ => by simp [mkS, Str.length]
        rw [e2]; lia
end
end U

/-! ## U15 -/
namespace U
open PySem PyProof.Rows PySem.Calls

section
variable {c : Cx} {α β : Type} {A : Around} {cs cs' : Cs} {env : Env} {i j : Int} {x y : V} {l m : List V} {a b : List Nat} {Q : V → Cs → Prop} {QB : Bool → Cs → Prop} {QU : Unit → Cs → Prop}

/-- a list of the same -/
theorem T_listOf (h : IsL c cs x l) (hz : l.length ≤ 16777216) (q : ∀ a, Q (.ref a) ((a, .list l) :: cs)) : Ty c A cs "list" [x] Q := fun W F s vs M r => by
  cases r using RelL.consE with
  | cons v _ vs _ r rs =>
    (first | cases rs using Rel.intE | cases rs using Rel.refE | cases rs using RelL.nilE | cases rs using Rel.strE | cases rs using Rel.bytesE | cases rs using Rel.noneE | cases rs using Rel.boolE | cases rs using Rel.listE | cases rs using Rel.tupE | cases rs using Rel.sdE | cases rs using Rel.iddE | cases rs using Rel.biE | cases rs using Rel.tyE | cases rs using Rel.rngE | cases rs)
    obtain ⟨o, vs, n, rfl, ho, rl⟩ := h W F s v M r
    refine call_list_seq o (T := "list") (.inl rfl) ho rfl rfl (fun h' c' hk hn => ?_) (by simp [RL.len rl, sizeL]; exact hz)
    have fr := M.fresh
    have M' := M.step fr.1 fr.2.1 fr.2.2 (fun b o _ e => hk b o e) s.toks
    refine ⟨W, _, _, Le.refl W, .ref _, ?_, q _⟩
    refine ⟨M'.rest, M'.hw, M'.hf, M'.base, M'.wf, fun p hp => ?_, ?_⟩
    · rcases List.mem_cons.mp hp with rfl | hp
      · exact ⟨_, hn, .list vs c' l rl, fr.1, fr.2.1⟩
      · exact M'.own p hp
    · rw [List.map_cons, List.nodup_cons]
      refine ⟨fun hm => ?_, M'.nodup⟩
      obtain ⟨p, hp, e⟩ := List.mem_map.mp hm
      exact fr.2.2 p hp e

/-! ### the same lists -/
theorem C_eqNil (hu : A.units < cLine) (h1 : IsL c cs x l) (h2 : IsL c cs y []) (q : QB (decide (l = [])) cs) : Cmp c A cs .Eq x y QB := fun W F s v u M r1 r2 => by
  obtain ⟨o, vs, n, rfl, ho, rl⟩ := h1 W F s v M r1
  obtain ⟨o2, vs2, n2, rfl, ho2, rl2⟩ := h2 W F s u M r2
  (first | cases rl2 using Rel.intE | cases rl2 using Rel.refE | cases rl2 using RelL.nilE | cases rl2 using Rel.strE | cases rl2 using Rel.bytesE | cases rl2 using Rel.noneE | cases rl2 using Rel.boolE | cases rl2 using Rel.listE | cases rl2 using Rel.tupE | cases rl2 using Rel.sdE | cases rl2 using Rel.iddE | cases rl2 using Rel.biE | cases rl2 using Rel.tyE | cases rl2 using Rel.rngE | cases rl2)
  cases l with
  | nil =>
    (first | cases rl using Rel.intE | cases rl using Rel.refE | cases rl using RelL.nilE | cases rl using Rel.strE | cases rl using Rel.bytesE | cases rl using Rel.noneE | cases rl using Rel.boolE | cases rl using Rel.listE | cases rl using Rel.tupE | cases rl using Rel.sdE | cases rl using Rel.iddE | cases rl using Rel.biE | cases rl using Rel.tyE | cases rl using Rel.rngE | cases rl)
    refine SeqAt.eq_listAt (items := #[]) (items2 := #[]) (e := fun _ => true) ⟨_, ho, rfl, n, rfl⟩ ⟨_, ho2, rfl, n2, rfl⟩ rfl hu (fun j h => by simp at h) (here (.bool _) M ⟨_, rfl, ?_⟩)
    simpa using q
  | cons z l =>
    have e := RL.len rl
    refine SeqAt.eq_list_lengthsAt (items := vs.toArray) (items2 := #[]) ⟨_, ho, rfl, n, rfl⟩ ⟨_, ho2, rfl, n2, rfl⟩ ?_ hu (here (.bool _) M ⟨_, rfl, ?_⟩)
    · simp [e]
    · simpa using q
theorem C_neSame (hu : A.units < cLine) {bl : List (List Nat)} (h1 : IsL c cs x (bl.map V.bytes)) (h2 : IsL c cs y (bl.map V.bytes)) (q : QB false cs) : Cmp c A cs .NotEq x y QB := fun W F s v u M r1 r2 => by
  obtain ⟨o, vs, n, rfl, ho, rl⟩ := h1 W F s v M r1
  obtain ⟨o2, vs2, n2, rfl, ho2, rl2⟩ := h2 W F s u M r2
  have e1 := RL.len rl
  have e2 := RL.len rl2
  refine SeqAt.RcNeAt.lists (items := vs.toArray) (items2 := vs2.toArray) (e := fun _ => true) ⟨_, ho, rfl, n, rfl⟩ ⟨_, ho2, rfl, n2, rfl⟩ (by simp [e1, e2]) hu (fun j h h' => ?_) c.prog c.w NoE _ (here (.bool _) M ⟨_, rfl, ?_⟩)
  · have hj : j < bl.length := by simpa [e1] using h
    have g : (bl.map V.bytes)[j]? = some (V.bytes bl[j]) := by simp [hj]
    have ra := RL.get rl j _ _ (List.getElem?_eq_getElem (by simpa using h)) g
    have rb := RL.get rl2 j _ _ (List.getElem?_eq_getElem (by simpa using h')) g
    obtain ⟨p1, t1, e1, f1⟩ := bytesInv ra
    obtain ⟨p2, t2, e2, f2⟩ := bytesInv rb
    have hp : p1 = p2 := (u8map _ _).mp (f1.trans f2.symm)
    subst hp
    simp only [List.getElem_toArray]
    rw [e1, e2]
    exact fun prog w E Q hq => PySem.W.eqBool_bytes (by simpa using hq)
  · rw [show (List.range vs.toArray.size).all (fun _ => true) = true from (List.all_eq_true.mpr fun _ _ => rfl)]; exact q

theorem O_mul1 {z : V} (h : IsL c cs x [z]) (q : ∀ a, Q (.ref a) ((a, .list [z]) :: cs)) : Op2 c A cs (binaryOp .Mult) x (.int 1) (RV c) Q := fun W F s v w M r1 r2 => by
  obtain ⟨o, vs, n, rfl, ho, rl⟩ := h W F s v M r1
  (first | cases r2 using Rel.intE | cases r2 using Rel.refE | cases r2 using RelL.nilE | cases r2 using Rel.strE | cases r2 using Rel.bytesE | cases r2 using Rel.noneE | cases r2 using Rel.boolE | cases r2 using Rel.listE | cases r2 using Rel.tupE | cases r2 using Rel.sdE | cases r2 using Rel.iddE | cases r2 using Rel.biE | cases r2 using Rel.tyE | cases r2 using Rel.rngE | cases r2)
  rename_i u
  have e := RL.len rl
  refine wpAny_binaryOp_repeat_ref (T := "list") (U := "int") (by decide) ⟨_, ho, rfl⟩ (fun s' => typeIs_int s' 1 u) noFill_list_mul PySem.F.fills_int_mul PySem.F.slot_int_rmul repeat_list PySem.F.slot_int_index.lookup
    (call_meets PySem.F.slot_int_rmul (typeIs_int s 1 u) PySem.F.entry_int_rmul (PySem.F.args_int_rmul_2 _ _) (int___rmul___int_list 1 u o vs.toArray n)
      ⟨ho, rfl, ⟨_, ho, rfl⟩, call_meets PySem.F.slot_list_mul ⟨_, ho, rfl⟩ PySem.F.entry_list_mul (PySem.F.args_list_mul_2 _ _)
        (AutoListH.list___mul___list_int_3 o vs.toArray n 1 u (by decide) (by simp [e]) (by simp [Builtin.List.listTooLong, e, sizeL]))
        ⟨ho, ?_⟩⟩)
  have e2 : List.foldl (fun x1 x2 => x1 ++ x2) #[] (List.replicate (if vs.toArray.isEmpty = true then 0 else (1 : Int).toNat) vs.toArray) = vs.toArray := by
    rcases vs with _ | ⟨v, r⟩
    · simp at e
    · simp
  rw [e2]
  exact ⟨W, _, _, Le.refl W, .ref _, M.pushC _ (.list vs 0 _ rl), q _⟩
end
end U

/-! ## U16 -/
namespace U
open PySem PyProof.Rows PySem.Calls

theorem freshMod {c : Cx} {W F : Wd} {cs : Cs} {s : Shared} (M : MdlC c W F cs s) : s.heap.objs.size ≠ sysModules := by
  obtain ⟨mc, ⟨o, es, ep, ho, _⟩, _⟩ := c.nodigits
  have h := Heap.lt_size (M.hw _ _ (M.base _ _ ho))
  intro e
  rw [e] at h
  exact absurd h (by decide)
theorem notMod {d : Addr} (h : d ≠ sysModules) : (d == sysModules) = false := by simpa using h
theorem eqStr {s : Str} {k : List Nat} (h : s.cps.toList = k) : s = mkS k := strEq (by rw [h]; simp [mkS])

/-! ### str keys -/
section
variable {c : Cx} {W : Wd}
noncomputable def kvS (es : List DictEntry) : List (Str × Value) := es.map fun e => (match e.key with | .str x _ => x | _ => Str.empty, e.val)
noncomputable def RelKS (c : Cx) (W : Wd) : List (Str × Value) → List (List Nat × V) → Prop
  | [], [] => True
  | (k, v) :: r, (k', x) :: l => k = mkS k' ∧ RV c W v x ∧ RelKS c W r l
  | _, _ => False
theorem RelKS.app : ∀ {kvs : List (Str × Value)} {l : List (List Nat × V)} {kvs2 : List (Str × Value)} {l2 : List (List Nat × V)}, RelKS c W kvs l → RelKS c W kvs2 l2 → RelKS c W (kvs ++ kvs2) (l ++ l2)
  | [], [], _, _, _, h => h
  | (k, v) :: r, (k', x) :: l, _, _, h, h2 => ⟨h.1, h.2.1, RelKS.app h.2.2 h2⟩
  | [], _ :: _, _, _, h, _ => h.elim
  | _ :: _, [], _, _, h, _ => h.elim
theorem RelKS.keys : ∀ {kvs : List (Str × Value)} {l : List (List Nat × V)}, RelKS c W kvs l → kvs.map (·.1) = l.map fun p => mkS p.1
  | [], [], _ => rfl
  | (k, v) :: r, (k', x) :: l, h => by simp only [List.map_cons]; rw [h.1, RelKS.keys h.2.2]
  | [], _ :: _, h => h.elim
  | _ :: _, [], h => h.elim
theorem mkS_inj {a b : List Nat} (h : mkS a = mkS b) : a = b := by
  have := congrArg (fun s : Str => s.cps.toList) h; simpa [mkS] using this
theorem RelS.kvs {es : List DictEntry} {l : List (List Nat × V)} (r : RelS c.w c.ad W es l) : RelKS c W (kvS es) l := by
  induction es generalizing l with
  | nil => (first | cases r using Rel.intE | cases r using Rel.refE | cases r using RelL.nilE | cases r using Rel.strE | cases r using Rel.bytesE | cases r using Rel.noneE | cases r using Rel.boolE | cases r using Rel.listE | cases r using Rel.tupE | cases r using Rel.sdE | cases r using Rel.iddE | cases r using Rel.biE | cases r using Rel.tyE | cases r using Rel.rngE | cases r); exact trivial
  | cons e es ih => cases r with
    | cons k t v x _ l h r => exact ⟨strEq (by simp [mkS]), h, ih r⟩
theorem RelS.pairs {es : List DictEntry} {l : List (List Nat × V)} (r : RelS c.w c.ad W es l) : Pairs (strKind c.prog c.w) es (kvS es) := by
  induction es generalizing l with
  | nil => exact .nil
  | cons e es ih => cases r with
    | cons k t v x _ l h r => exact .cons (strKind_is _ _ _ _) rfl (ih r)
theorem RelS.keysOf {es : List DictEntry} {l : List (List Nat × V)} (r : RelS c.w c.ad W es l) : KeysOf (strKind c.prog c.w) es.toArray := by
  intro e he
  have he : e ∈ es := by simpa using he
  induction es generalizing l with
  | nil => simp at he
  | cons e' es ih => cases r with
    | cons k t v x _ l h r =>
      rcases List.mem_cons.mp he with rfl | he
      · exact ⟨_, strKind_is _ _ _ _, rfl⟩
      · exact ih r (by simpa using he) he
theorem RelS.dictAt {es : List DictEntry} {l : List (List Nat × V)} {h : Heap} {a : Addr} {n : Nat} (r : RelS c.w c.ad W es l) (hn : (l.map (·.1)).Nodup) (ho : h.get? a = some (dictObj es n)) :
    h.DictAt (strKind c.prog c.w) a (kvS es) n := by
  refine ⟨_, _, ho, ⟨rfl, rfl, rfl⟩, rfl, r.keysOf, r.pairs, ?_⟩
  rw [r.kvs.keys]
  rw [List.nodup_iff_pairwise_ne] at hn ⊢
  rw [List.pairwise_map] at hn ⊢
  exact hn.imp fun h e => h (mkS_inj e)
theorem RelKS.at : ∀ {kvs : List (Str × Value)} {l : List (List Nat × V)} {k : List Nat} {x : V}, RelKS c W kvs l → (l.map (·.1)).Nodup → (k, x) ∈ l → ∃ v, valueAt kvs (mkS k) = some v ∧ RV c W v x
  | [], [], _, _, _, _, h => by simp at h
  | (k1, v) :: r, (k', y) :: l, k, x, h, hn, hm => by
    rw [List.map_cons, List.nodup_cons] at hn
    rcases List.mem_cons.mp hm with e | hm
    · cases e
      exact ⟨v, by simp [valueAt, h.1], h.2.1⟩
    · obtain ⟨v', h1, h2⟩ := RelKS.at h.2.2 hn.2 hm
      refine ⟨v', ?_, h2⟩
      have hne : ¬ k1 = mkS k := fun e => by
        have := mkS_inj (h.1.symm.trans e)
        subst this
        exact hn.1 (List.mem_map_of_mem (f := (·.1)) hm)
      unfold valueAt at h1 ⊢
      rw [List.find?_cons]
      simp only [decide_eq_false hne]
      exact h1
  | [], _ :: _, _, _, h, _, _ => h.elim
  | _ :: _, [], _, _, h, _, _ => h.elim
theorem RelKS.none : ∀ {kvs : List (Str × Value)} {l : List (List Nat × V)} {k : List Nat}, RelKS c W kvs l → k ∉ l.map (·.1) → valueAt kvs (mkS k) = none
  | [], [], _, _, _ => rfl
  | (k1, v) :: r, (k', y) :: l, k, h, hm => by
    rw [List.map_cons, List.mem_cons, not_or] at hm
    have := RelKS.none h.2.2 hm.2
    have hne : ¬ k1 = mkS k := fun e => hm.1 (mkS_inj (h.1.symm.trans e)).symm
    unfold valueAt at this ⊢
    rw [List.find?_cons]
    simp only [decide_eq_false hne]
    exact this
  | [], _ :: _, _, h, _ => h.elim
  | _ :: _, [], _, h, _ => h.elim
theorem RelKS.any {kvs : List (Str × Value)} {l : List (List Nat × V)} {k : List Nat} (h : RelKS c W kvs l) (hm : k ∉ l.map (·.1)) : (kvs.any fun kv => decide (kv.1 = mkS k)) = false := by
  rw [List.any_eq_false]
  intro p hp hpe
  have hk : mkS k ∈ kvs.map (·.1) := by rw [← of_decide_eq_true hpe]; exact List.mem_map_of_mem (f := (·.1)) hp
  rw [h.keys] at hk
  obtain ⟨q, hq, e⟩ := List.mem_map.mp hk
  exact hm (by rw [← mkS_inj e]; exact List.mem_map_of_mem (f := (·.1)) hq)
theorem RelKS.back {o : Obj} {kvs : List (Str × Value)} {l : List (List Nat × V)} (h : RelKS c W kvs l) (hd : o.IsDictOf (strKind c.prog c.w) kvs) : ∃ es n, o = dictObj es n ∧ RelS c.w c.ad W es l := by
  obtain ⟨es, ep, hx, hdat, hk, hp, hn⟩ := hd
  obtain ⟨cls, dict, data, slots⟩ := o
  obtain ⟨h1, h2, h3⟩ := hx
  simp only at h1 h2 h3 hdat
  subst h1 h2 h3 hdat
  obtain ⟨es⟩ := es
  refine ⟨es, ep, rfl, ?_⟩
  have hk' : ∀ e ∈ es, ∃ k, (strKind c.prog c.w).is k e.key = true ∧ e.hash = (strKind c.prog c.w).hash k := fun e he => hk e (by simpa using he)
  have hp' : Pairs (strKind c.prog c.w) es kvs := hp
  clear hk hp hn
  induction es generalizing kvs l with
  | nil => cases hp'; cases l with
    | nil => exact .nil
    | cons _ _ => exact h.elim
  | cons e es ih =>
    cases hp' with
    | cons a1 a2 a3 =>
      rename_i kvp kvs
      obtain ⟨k, v⟩ := kvp
      cases l with
      | nil => exact h.elim
      | cons p l =>
        obtain ⟨k', x⟩ := p
        obtain ⟨k2, b1, b2⟩ := hk' e List.mem_cons_self
        have hkk : k2 = k := (strKind c.prog c.w).inj _ _ _ b1 a1
        subst hkk
        obtain ⟨hash, key, val⟩ := e
        obtain ⟨t, rfl⟩ := Value.isStrOf_shape a1
        have := ih h.2.2 (fun e he => hk' e (List.mem_cons_of_mem _ he)) a3
        obtain ⟨rfl, hr, _⟩ := h
        dsimp only at a2 b2
        subst a2 b2
        exact by have := RelS.cons (w := c.w) (ad := c.ad) (W := W) (mkS k') t _ _ _ _ hr this; rw [show (mkS k').cps.toList = k' by simp [mkS]] at this; exact this

variable {A : Around} {cs cs' : Cs} {env : Env} {i j : Int} {x y z : V} {k : List Nat} {l : List (List Nat × V)} {Q : V → Cs → Prop} {QB : Bool → Cs → Prop} {QU : Unit → Cs → Prop}
/-- a dict, fixed or not -/
noncomputable def IsS (c : Cx) (cs : Cs) (x : V) (l : List (List Nat × V)) : Prop := ∀ W F s v, MdlC c W F cs s → RV c W v x → ∃ a es n, v = .ref a ∧ a ≠ sysModules ∧ s.heap.get? a = some (dictObj es n) ∧ RelS c.w c.ad W es l
theorem IsS_f : IsS c cs (.sd l) l := fun W F s v M r => by
  cases r using Rel.sdE with
  | sd a vs n _ ne h r => exact ⟨a, vs, n, rfl, ne, M.hw _ _ h, r⟩
theorem IsS_c {a : Addr} (h : At a (.sd l) cs) (ne : a ≠ sysModules) : IsS c cs (.ref a) l := fun W F s v M r => by
  (first | cases r using Rel.intE | cases r using Rel.refE | cases r using RelL.nilE | cases r using Rel.strE | cases r using Rel.bytesE | cases r using Rel.noneE | cases r using Rel.boolE | cases r using Rel.listE | cases r using Rel.tupE | cases r using Rel.sdE | cases r using Rel.iddE | cases r using Rel.biE | cases r using Rel.tyE | cases r using Rel.rngE | cases r)
  obtain ⟨o, ho, hr, _⟩ := M.own _ h.mem
  cases hr with
  | sd vs n _ r => exact ⟨a, vs, n, rfl, ne, ho, r⟩
theorem E_Dict0S {pos : Pos} (q : ∀ a, a ≠ sysModules → Q (.ref a) ((a, .sd []) :: cs)) : GE c A cs (eval (.Dict [] [] pos) env) Q := fun W F s M => by
  refine wpAny_Dict_empty ?_
  exact ⟨W, _, _, Le.refl W, .ref _, M.pushC _ (.sd [] 0 [] .nil), q _ (freshMod M)⟩
theorem inS {W F : Wd} {s : Shared} {v : Value} (M : MdlC c W F cs s) (r : RV c W v (.str k)) : ∃ t, v = .str (mkS k) t := by
  cases r using Rel.strE with
  | str x t _ e => exact ⟨_, by rw [eqStr e]⟩
theorem C_ninS (h : IsS c cs x l) (hn : (l.map (·.1)).Nodup) (q : QB (decide (k ∉ l.map (·.1))) cs) : Cmp c A cs .NotIn (.str k) x QB := fun W F s v u M r1 r2 => by
  obtain ⟨t, rfl⟩ := inS M r1
  obtain ⟨a, es, n, rfl, ne, ho, r⟩ := h W F s u M r2
  have hd := (r.dictAt hn ho).dictOf
  refine wpAny_notIn_of (strKind_is _ _ _ _) (notMod ne) hd.mapOf (here (.bool _) (M.toks _) ⟨_, rfl, ?_⟩)
  by_cases hk : k ∈ l.map (·.1)
  · obtain ⟨p, hp, e⟩ := List.mem_map.mp hk
    obtain ⟨v, h1, _⟩ := r.kvs.at hn (k := k) (x := p.2) (by rw [← e]; exact hp)
    rw [h1]; rw [decide_eq_false (fun h => h hk)] at q; exact q
  · rw [r.kvs.none hk]; rw [decide_eq_true hk] at q; exact q
theorem GI_S (h : IsS c cs x l) (hn : (l.map (·.1)).Nodup) (hm : (k, y) ∈ l) (q : Q y cs) : GI c A cs x (.str k) Q := fun W F s v u M r1 r2 => by
  obtain ⟨t, rfl⟩ := inS M r2
  obtain ⟨a, es, n, rfl, ne, ho, r⟩ := h W F s v M r1
  obtain ⟨v, h1, h2⟩ := r.kvs.at hn hm
  exact wpAny_getItem_of (strKind_is _ _ _ _) (r.dictAt hn ho).dictOf.mapOf h1 (here h2 (M.toks _) q)
theorem OfT_S (h : IsS c cs x l) : OfT c cs x "dict" := fun W F s v M r => by
  obtain ⟨a, es, n, rfl, ne, ho, r⟩ := h W F s v M r
  exact ⟨⟨_, ho, rfl⟩, fun b e => by cases e; exact ⟨_, ho, rfl⟩⟩
theorem M_getS (h : IsS c cs x l) (hn : (l.map (·.1)).Nodup) (hm : (k, y) ∈ l) (q : Q y cs) : Bi c A cs "dict.get" [x, .str k, z] Q := fun W F s vs M r => by
  cases r using RelL.consE with
  | cons v _ vs _ r rs => cases rs using RelL.consE with
    | cons u _ us _ r2 rs => cases rs using RelL.consE with
      | cons w _ us _ r3 rs =>
        (first | cases rs using Rel.intE | cases rs using Rel.refE | cases rs using RelL.nilE | cases rs using Rel.strE | cases rs using Rel.bytesE | cases rs using Rel.noneE | cases rs using Rel.boolE | cases rs using Rel.listE | cases rs using Rel.tupE | cases rs using Rel.sdE | cases rs using Rel.iddE | cases rs using Rel.biE | cases rs using Rel.tyE | cases rs using Rel.rngE | cases rs)
        obtain ⟨t, rfl⟩ := inS M r2
        obtain ⟨a, es, n, rfl, ne, ho, r⟩ := h W F s v M r
        obtain ⟨v, h1, h2⟩ := r.kvs.at hn hm
        refine call_meetsIn PySem.F.slot_dict_get ⟨_, ho, rfl⟩ PySem.F.entry_dict_get (PySem.F.args_dict_get_3 _ _ _) (meets_dict_get_default (strKind c.prog c.w) a (strKind_is _ _ _ _) (notMod ne) w) ⟨_, (r.dictAt hn ho).dictOf.mapOf, ?_⟩
        rw [h1]; exact here h2 (M.toks _) q
theorem M_get0S (h : IsS c cs x l) (hn : (l.map (·.1)).Nodup) (hm : k ∉ l.map (·.1)) (q : Q z cs) : Bi c A cs "dict.get" [x, .str k, z] Q := fun W F s vs M r => by
  cases r using RelL.consE with
  | cons v _ vs _ r rs => cases rs using RelL.consE with
    | cons u _ us _ r2 rs => cases rs using RelL.consE with
      | cons w _ us _ r3 rs =>
        (first | cases rs using Rel.intE | cases rs using Rel.refE | cases rs using RelL.nilE | cases rs using Rel.strE | cases rs using Rel.bytesE | cases rs using Rel.noneE | cases rs using Rel.boolE | cases rs using Rel.listE | cases rs using Rel.tupE | cases rs using Rel.sdE | cases rs using Rel.iddE | cases rs using Rel.biE | cases rs using Rel.tyE | cases rs using Rel.rngE | cases rs)
        obtain ⟨t, rfl⟩ := inS M r2
        obtain ⟨a, es, n, rfl, ne, ho, r⟩ := h W F s v M r
        refine call_meetsIn PySem.F.slot_dict_get ⟨_, ho, rfl⟩ PySem.F.entry_dict_get (PySem.F.args_dict_get_3 _ _ _) (meets_dict_get_default (strKind c.prog c.w) a (strKind_is _ _ _ _) (notMod ne) w) ⟨_, (r.dictAt hn ho).dictOf.mapOf, ?_⟩
        rw [r.kvs.none hm]; exact here r3 (M.toks _) q
theorem SI_S {a : Addr} (u : Upd a (.sd l) (.sd (l ++ [(k, x)])) cs cs') (hn : (l.map (·.1)).Nodup) (hm : k ∉ l.map (·.1)) (hz : l.length ≤ 16777216) (q : QU () cs') : Op3 c A cs setItem (.ref a) (.str k) x RU QU := fun W F s v u' w M r1 r2 r3 => by
  obtain ⟨t, rfl⟩ := inS M r2
  (first | cases r1 using Rel.intE | cases r1 using Rel.refE | cases r1 using RelL.nilE | cases r1 using Rel.strE | cases r1 using Rel.bytesE | cases r1 using Rel.noneE | cases r1 using Rel.boolE | cases r1 using Rel.listE | cases r1 using Rel.tupE | cases r1 using Rel.sdE | cases r1 using Rel.iddE | cases r1 using Rel.biE | cases r1 using Rel.tyE | cases r1 using Rel.rngE | cases r1)
  obtain ⟨o, ho, hr⟩ := M.at u
  cases hr with
  | sd es n _ r =>
    have hd := (r.dictAt hn ho).dictOf
    have hlen : (kvS es).length = l.length := by have := congrArg List.length r.kvs.keys; simpa using this
    refine wpAny_setItem_pairs (strKind_is _ _ _ _) hd (fun h' hd' hs' => ?_) (by rw [hlen, sizeL]; exact hz)
    have e : stored (kvS es) (mkS k) w = kvS es ++ [(mkS k, w)] := by
      unfold stored
      rw [if_neg (by rw [r.kvs.any hm]; exact Bool.false_ne_true)]
    rw [e] at hd'
    obtain ⟨o', ho', hi⟩ := Heap.dictOf_iff.mp hd'
    obtain ⟨es', n', rfl, r'⟩ := (r.kvs.app (l2 := [(k, x)]) (kvs2 := [(mkS k, w)]) ⟨rfl, r3, trivial⟩).back hi
    exact here trivial (M.upd u hs' ho' (.sd es' n' _ r') _) q
theorem IterV_S (hn : (l.map (·.1)).Nodup) : IterV c (.sd l) (l.map fun p => V.str p.1) := by
  intro A W F cs s v Q E hA M r kk
  cases r using Rel.sdE with
  | sd a es n _ ne h r =>
    have hd := r.dictAt hn (M.hw _ _ h)
    have hlen : (kvS es).length = l.length := by have := congrArg List.length r.kvs.keys; simpa using this
    refine wpAny_pyIter_dict (notMod ne) hd ?_
    obtain ⟨M', fr⟩ := Mdl.push1 M { cls := .type "dict_keyiterator", data := .fields #[.ref a, .int 0 0, .int (kvS es).length 0, .int n 0] }
    have hne : a ≠ s.heap.objs.size := fun e => by have := fr.w; rw [← e, h] at this; cases this
    refine kk _ _ M' ⟨_, _, _, _, 0, fun A' h' => Walks.dictKeys h' s.heap.objs.size a hne (kvS es) n, ⟨⟨_, Heap.get?_push_size _ rfl, rfl, rfl⟩, hd.push _⟩, ?_, ?_, ?_, ?_⟩ fr
    · simp [hlen]
    · rintro j v x hx ⟨k, y, hk, hv⟩
      simp only [Nat.zero_add] at hk
      have hkk : ((kvS es).map (·.1))[j]? = some k := by simp [hk]
      rw [r.kvs.keys] at hkk
      rw [List.getElem?_map] at hx hkk
      cases hj : l[j]? with
      | none => rw [hj] at hx; cases hx
      | some p =>
        rw [hj] at hx hkk
        simp only [Option.map_some, Option.some.injEq] at hx hkk
        subst hx hkk
        obtain ⟨t, rfl⟩ := Value.isStrOf_shape hv
        exact .str _ _ _ (by simp [mkS])
    · intro b hb
      simp only [List.mem_cons, List.not_mem_nil, or_false] at hb
      rcases hb with rfl | rfl
      · exact .inl rfl
      · exact .inr ⟨_, h⟩
    · rintro j h ⟨⟨o, h1, h2, _⟩, _⟩
      exact ⟨o, h1, fun n e => by rw [h2] at e; cases e; decide +kernel⟩
end

/-! ### int keys -/
section
variable {c : Cx} {W : Wd}
noncomputable def kvI (es : List DictEntry) : List (Int × Value) := es.map fun e => (match e.key with | .int x _ => x | _ => 0, e.val)
noncomputable def RelKI (c : Cx) (W : Wd) : List (Int × Value) → List (Int × V) → Prop
  | [], [] => True
  | (k, v) :: r, (k', x) :: l => k = id k' ∧ RV c W v x ∧ RelKI c W r l
  | _, _ => False
theorem RelKI.app : ∀ {kvs : List (Int × Value)} {l : List (Int × V)} {kvs2 : List (Int × Value)} {l2 : List (Int × V)}, RelKI c W kvs l → RelKI c W kvs2 l2 → RelKI c W (kvs ++ kvs2) (l ++ l2)
  | [], [], _, _, _, h => h
  | (k, v) :: r, (k', x) :: l, _, _, h, h2 => ⟨h.1, h.2.1, RelKI.app h.2.2 h2⟩
  | [], _ :: _, _, _, h, _ => h.elim
  | _ :: _, [], _, _, h, _ => h.elim
theorem RelKI.keys : ∀ {kvs : List (Int × Value)} {l : List (Int × V)}, RelKI c W kvs l → kvs.map (·.1) = l.map fun p => id p.1
  | [], [], _ => rfl
  | (k, v) :: r, (k', x) :: l, h => by simp only [List.map_cons]; rw [h.1, RelKI.keys h.2.2]
  | [], _ :: _, h => h.elim
  | _ :: _, [], h => h.elim
theorem mkI_inj {a b : Int} (h : id a = id b) : a = b := by
  exact h
theorem RelI.kvs {es : List DictEntry} {l : List (Int × V)} (r : RelI c.w c.ad W es l) : RelKI c W (kvI es) l := by
  induction es generalizing l with
  | nil => (first | cases r using Rel.intE | cases r using Rel.refE | cases r using RelL.nilE | cases r using Rel.strE | cases r using Rel.bytesE | cases r using Rel.noneE | cases r using Rel.boolE | cases r using Rel.listE | cases r using Rel.tupE | cases r using Rel.sdE | cases r using Rel.iddE | cases r using Rel.biE | cases r using Rel.tyE | cases r using Rel.rngE | cases r); exact trivial
  | cons e es ih => cases r with
    | cons k t hs v x _ l hh h r => exact ⟨rfl, h, ih r⟩
theorem RelI.pairs {es : List DictEntry} {l : List (Int × V)} (r : RelI c.w c.ad W es l) : Pairs (intKind c.prog c.w) es (kvI es) := by
  induction es generalizing l with
  | nil => exact .nil
  | cons e es ih => cases r with
    | cons k t hs v x _ l hh h r => exact .cons (intKind_is _ _ _ _) rfl (ih r)
theorem RelI.keysOf {es : List DictEntry} {l : List (Int × V)} (r : RelI c.w c.ad W es l) : KeysOf (intKind c.prog c.w) es.toArray := by
  intro e he
  have he : e ∈ es := by simpa using he
  induction es generalizing l with
  | nil => simp at he
  | cons e' es ih => cases r with
    | cons k t hs v x _ l hh h r =>
      rcases List.mem_cons.mp he with rfl | he
      · exact ⟨_, intKind_is _ _ _ _, hh⟩
      · exact ih r (by simpa using he) he
theorem RelI.dictAt {es : List DictEntry} {l : List (Int × V)} {h : Heap} {a : Addr} {n : Nat} (r : RelI c.w c.ad W es l) (hn : (l.map (·.1)).Nodup) (ho : h.get? a = some (dictObj es n)) :
    h.DictAt (intKind c.prog c.w) a (kvI es) n := by
  refine ⟨_, _, ho, ⟨rfl, rfl, rfl⟩, rfl, r.keysOf, r.pairs, ?_⟩
  rw [r.kvs.keys]
  rw [List.nodup_iff_pairwise_ne] at hn ⊢
  rw [List.pairwise_map] at hn ⊢
  exact hn.imp fun h e => h (mkI_inj e)
theorem RelKI.at : ∀ {kvs : List (Int × Value)} {l : List (Int × V)} {k : Int} {x : V}, RelKI c W kvs l → (l.map (·.1)).Nodup → (k, x) ∈ l → ∃ v, valueAt kvs (id k) = some v ∧ RV c W v x
  | [], [], _, _, _, _, h => by simp at h
  | (k1, v) :: r, (k', y) :: l, k, x, h, hn, hm => by
    rw [List.map_cons, List.nodup_cons] at hn
    rcases List.mem_cons.mp hm with e | hm
    · cases e
      exact ⟨v, by simp [valueAt, h.1], h.2.1⟩
    · obtain ⟨v', h1, h2⟩ := RelKI.at h.2.2 hn.2 hm
      refine ⟨v', ?_, h2⟩
      have hne : ¬ k1 = id k := fun e => by
        have := mkI_inj (h.1.symm.trans e)
        subst this
        exact hn.1 (List.mem_map_of_mem (f := (·.1)) hm)
      unfold valueAt at h1 ⊢
      rw [List.find?_cons]
      simp only [decide_eq_false hne]
      exact h1
  | [], _ :: _, _, _, h, _, _ => h.elim
  | _ :: _, [], _, _, h, _, _ => h.elim
theorem RelKI.none : ∀ {kvs : List (Int × Value)} {l : List (Int × V)} {k : Int}, RelKI c W kvs l → k ∉ l.map (·.1) → valueAt kvs (id k) = none
  | [], [], _, _, _ => rfl
  | (k1, v) :: r, (k', y) :: l, k, h, hm => by
    rw [List.map_cons, List.mem_cons, not_or] at hm
    have := RelKI.none h.2.2 hm.2
    have hne : ¬ k1 = id k := fun e => hm.1 (mkI_inj (h.1.symm.trans e)).symm
    unfold valueAt at this ⊢
    rw [List.find?_cons]
    simp only [decide_eq_false hne]
    exact this
  | [], _ :: _, _, h, _ => h.elim
  | _ :: _, [], _, h, _ => h.elim
theorem RelKI.any {kvs : List (Int × Value)} {l : List (Int × V)} {k : Int} (h : RelKI c W kvs l) (hm : k ∉ l.map (·.1)) : (kvs.any fun kv => decide (kv.1 = id k)) = false := by
  rw [List.any_eq_false]
  intro p hp hpe
  have hk : id k ∈ kvs.map (·.1) := by rw [← of_decide_eq_true hpe]; exact List.mem_map_of_mem (f := (·.1)) hp
  rw [h.keys] at hk
  obtain ⟨q, hq, e⟩ := List.mem_map.mp hk
  exact hm (by rw [← mkI_inj e]; exact List.mem_map_of_mem (f := (·.1)) hq)
theorem RelKI.back {o : Obj} {kvs : List (Int × Value)} {l : List (Int × V)} (h : RelKI c W kvs l) (hd : o.IsDictOf (intKind c.prog c.w) kvs) : ∃ es n, o = dictObj es n ∧ RelI c.w c.ad W es l := by
  obtain ⟨es, ep, hx, hdat, hk, hp, hn⟩ := hd
  obtain ⟨cls, dict, data, slots⟩ := o
  obtain ⟨h1, h2, h3⟩ := hx
  simp only at h1 h2 h3 hdat
  subst h1 h2 h3 hdat
  obtain ⟨es⟩ := es
  refine ⟨es, ep, rfl, ?_⟩
  have hk' : ∀ e ∈ es, ∃ k, (intKind c.prog c.w).is k e.key = true ∧ e.hash = (intKind c.prog c.w).hash k := fun e he => hk e (by simpa using he)
  have hp' : Pairs (intKind c.prog c.w) es kvs := hp
  clear hk hp hn
  induction es generalizing kvs l with
  | nil => cases hp'; cases l with
    | nil => exact .nil
    | cons _ _ => exact h.elim
  | cons e es ih =>
    cases hp' with
    | cons a1 a2 a3 =>
      rename_i kvp kvs
      obtain ⟨k, v⟩ := kvp
      cases l with
      | nil => exact h.elim
      | cons p l =>
        obtain ⟨k', x⟩ := p
        obtain ⟨k2, b1, b2⟩ := hk' e List.mem_cons_self
        have hkk : k2 = k := (intKind c.prog c.w).inj _ _ _ b1 a1
        subst hkk
        obtain ⟨hash, key, val⟩ := e
        obtain ⟨t, rfl⟩ := Value.isInt_shape a1
        have := ih h.2.2 (fun e he => hk' e (List.mem_cons_of_mem _ he)) a3
        obtain ⟨rfl, hr, _⟩ := h
        dsimp only at a2 b2
        subst a2 b2
        exact .cons _ _ _ _ _ _ _ rfl hr this

variable {A : Around} {cs cs' : Cs} {env : Env} {i j : Int} {x y z : V} {k : Int} {l : List (Int × V)} {Q : V → Cs → Prop} {QB : Bool → Cs → Prop} {QU : Unit → Cs → Prop}
/-- a dict, fixed or not -/
noncomputable def IsI (c : Cx) (cs : Cs) (x : V) (l : List (Int × V)) : Prop := ∀ W F s v, MdlC c W F cs s → RV c W v x → ∃ a es n, v = .ref a ∧ a ≠ sysModules ∧ s.heap.get? a = some (dictObj es n) ∧ RelI c.w c.ad W es l
theorem IsI_f : IsI c cs (.idd l) l := fun W F s v M r => by
  cases r using Rel.iddE with
  | idd a vs n _ ne h r => exact ⟨a, vs, n, rfl, ne, M.hw _ _ h, r⟩
theorem IsI_c {a : Addr} (h : At a (.idd l) cs) (ne : a ≠ sysModules) : IsI c cs (.ref a) l := fun W F s v M r => by
  (first | cases r using Rel.intE | cases r using Rel.refE | cases r using RelL.nilE | cases r using Rel.strE | cases r using Rel.bytesE | cases r using Rel.noneE | cases r using Rel.boolE | cases r using Rel.listE | cases r using Rel.tupE | cases r using Rel.sdE | cases r using Rel.iddE | cases r using Rel.biE | cases r using Rel.tyE | cases r using Rel.rngE | cases r)
  obtain ⟨o, ho, hr, _⟩ := M.own _ h.mem
  cases hr with
  | idd vs n _ r => exact ⟨a, vs, n, rfl, ne, ho, r⟩
theorem E_Dict0I {pos : Pos} (q : ∀ a, a ≠ sysModules → Q (.ref a) ((a, .idd []) :: cs)) : GE c A cs (eval (.Dict [] [] pos) env) Q := fun W F s M => by
  refine wpAny_Dict_empty ?_
  exact ⟨W, _, _, Le.refl W, .ref _, M.pushC _ (.idd [] 0 [] .nil), q _ (freshMod M)⟩
theorem inI {W F : Wd} {s : Shared} {v : Value} (M : MdlC c W F cs s) (r : RV c W v (.int k)) : ∃ t, v = .int (id k) t := by
  cases r using Rel.intE with
  | int i t => exact ⟨_, rfl⟩
theorem C_inI (h : IsI c cs x l) (hn : (l.map (·.1)).Nodup) (q : QB (decide (k ∈ l.map (·.1))) cs) : Cmp c A cs .In (.int k) x QB := fun W F s v u M r1 r2 => by
  obtain ⟨t, rfl⟩ := inI M r1
  obtain ⟨a, es, n, rfl, ne, ho, r⟩ := h W F s u M r2
  have hd := (r.dictAt hn ho).dictOf
  refine wpAny_in_of (intKind_is _ _ _ _) (notMod ne) hd.mapOf (here (.bool _) (M.toks _) ⟨_, rfl, ?_⟩)
  by_cases hk : k ∈ l.map (·.1)
  · obtain ⟨p, hp, e⟩ := List.mem_map.mp hk
    obtain ⟨v, h1, _⟩ := r.kvs.at hn (k := k) (x := p.2) (by rw [← e]; exact hp)
    rw [h1]; rw [decide_eq_true hk] at q; exact q
  · rw [r.kvs.none hk]; rw [decide_eq_false hk] at q; exact q
theorem C_ninI (h : IsI c cs x l) (hn : (l.map (·.1)).Nodup) (q : QB (decide (k ∉ l.map (·.1))) cs) : Cmp c A cs .NotIn (.int k) x QB := fun W F s v u M r1 r2 => by
  obtain ⟨t, rfl⟩ := inI M r1
  obtain ⟨a, es, n, rfl, ne, ho, r⟩ := h W F s u M r2
  have hd := (r.dictAt hn ho).dictOf
  refine wpAny_notIn_of (intKind_is _ _ _ _) (notMod ne) hd.mapOf (here (.bool _) (M.toks _) ⟨_, rfl, ?_⟩)
  by_cases hk : k ∈ l.map (·.1)
  · obtain ⟨p, hp, e⟩ := List.mem_map.mp hk
    obtain ⟨v, h1, _⟩ := r.kvs.at hn (k := k) (x := p.2) (by rw [← e]; exact hp)
    rw [h1]; rw [decide_eq_false (fun h => h hk)] at q; exact q
  · rw [r.kvs.none hk]; rw [decide_eq_true hk] at q; exact q
theorem GI_I (h : IsI c cs x l) (hn : (l.map (·.1)).Nodup) (hm : (k, y) ∈ l) (q : Q y cs) : GI c A cs x (.int k) Q := fun W F s v u M r1 r2 => by
  obtain ⟨t, rfl⟩ := inI M r2
  obtain ⟨a, es, n, rfl, ne, ho, r⟩ := h W F s v M r1
  obtain ⟨v, h1, h2⟩ := r.kvs.at hn hm
  exact wpAny_getItem_of (intKind_is _ _ _ _) (r.dictAt hn ho).dictOf.mapOf h1 (here h2 (M.toks _) q)
theorem SI_I {a : Addr} (u : Upd a (.idd l) (.idd (l ++ [(k, x)])) cs cs') (hn : (l.map (·.1)).Nodup) (hm : k ∉ l.map (·.1)) (hz : l.length ≤ 16777216) (q : QU () cs') : Op3 c A cs setItem (.ref a) (.int k) x RU QU := fun W F s v u' w M r1 r2 r3 => by
  obtain ⟨t, rfl⟩ := inI M r2
  (first | cases r1 using Rel.intE | cases r1 using Rel.refE | cases r1 using RelL.nilE | cases r1 using Rel.strE | cases r1 using Rel.bytesE | cases r1 using Rel.noneE | cases r1 using Rel.boolE | cases r1 using Rel.listE | cases r1 using Rel.tupE | cases r1 using Rel.sdE | cases r1 using Rel.iddE | cases r1 using Rel.biE | cases r1 using Rel.tyE | cases r1 using Rel.rngE | cases r1)
  obtain ⟨o, ho, hr⟩ := M.at u
  cases hr with
  | idd es n _ r =>
    have hd := (r.dictAt hn ho).dictOf
    have hlen : (kvI es).length = l.length := by have := congrArg List.length r.kvs.keys; simpa using this
    refine wpAny_setItem_pairs (intKind_is _ _ _ _) hd (fun h' hd' hs' => ?_) (by rw [hlen, sizeL]; exact hz)
    have e : stored (kvI es) (id k) w = kvI es ++ [(id k, w)] := by
      unfold stored
      rw [if_neg (by rw [r.kvs.any hm]; exact Bool.false_ne_true)]
    rw [e] at hd'
    obtain ⟨o', ho', hi⟩ := Heap.dictOf_iff.mp hd'
    obtain ⟨es', n', rfl, r'⟩ := (r.kvs.app (l2 := [(k, x)]) (kvs2 := [(id k, w)]) ⟨rfl, r3, trivial⟩).back hi
    exact here trivial (M.upd u hs' ho' (.idd es' n' _ r') _) q
end
end U

/-! ## U17 -/
namespace U
open PySem PyProof.Rows PySem.Calls

noncomputable def envKC (k : Nat) (pm code doc : Value) (L a : Addr) : Env := callEnvC (fdK k pm code doc) L a

section
variable {c : Cx} {α β : Type} {A : Around} {cs cs' : Cs} {env : Env} {i j : Int} {x y : V} {l m : List V} {a b : List Nat} {Q : V → Cs → Prop} {QB : Bool → Cs → Prop} {QU : Unit → Cs → Prop}

theorem Cal_ofC {k : Nat} {ps : List Str} {args : List V} {pass rest : Cs} {n m : Nat} (loc : List (Str × Option V)) (cv : Addr → List (Str × Addr × Option V)) (ok : Ok A n) (hm : m + 1 ≤ n)
    (hb : ∀ pm code doc L a, Ok (A.deeper (envKC k pm code doc L a)) m →
      GS c (A.deeper (envKC k pm code doc L a)) ((L, .frame loc) :: (((cv L).map fun p => (p.2.1, O.var p.2.2)) ++ pass)) (execs (fnBody k) (envKC k pm code doc L a)) (Out L rest Q))
    (hbind : ∀ pm code doc (vs : List Value), vs.length = args.length → bindArgs (fdK k pm code doc) ⟨vs, []⟩ = pure (ps.zip vs))
    (hlc : ∀ pm code doc L a (vs : List Value) W, RL c W vs args → (∀ x v, (x, some v) ∈ loc → ∃ u, bindL (envKC k pm code doc L a).kindOf (ps.zip vs) (fun _ => none) x = some u ∧ RV c W u v) ∧
      (∀ p ∈ cv L, (envKC k pm code doc L a).cells.lookup p.1 = some p.2.1 ∧ ∀ v, p.2.2 = some v → ∃ u, bindC (envKC k pm code doc L a).kindOf (ps.zip vs) (fun _ => none) p.1 = some u ∧ RV c W u v))
    (hkind : ∀ L, ∀ x ∈ ps, (fnScope k).names.lookup x = some .local ∨ ((fnScope k).names.lookup x = some .cell ∧ ((cellsFrom (L + 1) (fnScope k).names []).lookup x).isSome = true))
    (hnd : ∀ L, ((cv L).map (·.2.1)).Nodup) (hln : (loc.map (·.1)).Nodup)
    (hk : k ∈ fnIx := by decide) (h1 : (fnScope k).isCoroutine = false := by decide +kernel) (h2 : (fnScope k).isGenerator = false := by decide +kernel) (h3 : (fnScope k).kind = .function := by decide +kernel) :
    Cal c A (pass ++ rest) k args Q := by
  intro W F s vs M r
  obtain ⟨o, pm, code, doc, ho, hd, hcr⟩ := c.fns k (List.mem_append_left _ hk)
  obtain ⟨F', up, M1, back⟩ := lendAll rest pass F M
  refine wpAny_call (codeAny_call_cells (fd := fdK k pm code doc) (binds := ps.zip vs) ok.room (M.hw _ _ (M.base _ _ ho)) hd (c.nolimit.keeps fun b o e => M.hw _ _ (M.base _ _ e))
    (hcr.keeps fun b o e => M.hw _ _ (M.base _ _ e)) rfl (hbind _ _ _ _ (RL.len r)) rfl (fun x hx => hkind _ _ (List.of_mem_zip hx).1) (fun s₁ X => ?_) h1 h2 h3)
  have fr := M1.fresh
  obtain ⟨hl1, hl2⟩ := hlc pm code doc s.heap.objs.size (c.ad k) vs W r
  obtain ⟨h₁, tk, rfl⟩ := X.toInCall.same
  have none_of : ∀ b, s.heap.objs.size ≤ b → W b = none ∧ F' b = none ∧ ∀ p ∈ pass, p.1 ≠ b := by
    intro b hb
    have no : ∀ o, s.heap.get? b ≠ some o := fun o e => absurd (Heap.lt_size e) (Nat.not_lt.mpr hb)
    refine ⟨?_, ?_, fun p hp e => ?_⟩
    · cases h : W b with
      | none => rfl
      | some o => exact absurd (M1.hw _ _ h) (no o)
    · cases h : F' b with
      | none => rfl
      | some o => exact absurd (M1.hf _ _ h) (no o)
    · obtain ⟨o, h, _⟩ := M1.own p hp
      rw [e] at h; exact no o h
  have above : ∀ p ∈ cv s.heap.objs.size, s.heap.objs.size < p.2.1 := fun p hp => X.above p.1 p.2.1 (mem_of_lookup (hl2 p hp).1)
  have M2 : MdlC c W F' ((s.heap.objs.size, .frame loc) :: (((cv s.heap.objs.size).map fun p => (p.2.1, O.var p.2.2)) ++ pass)) { s with heap := h₁, toks := tk } := by
    have Ms := M1.step fr.1 fr.2.1 fr.2.2 (fun b o _ e => X.toInCall.keep b o e) tk
    obtain ⟨oL, es, ep, hoL, hdL, hkL, hfL⟩ := X.toInCall.ns
    refine ⟨Ms.rest, Ms.hw, Ms.hf, Ms.base, Ms.wf, fun p hp => ?_, ?_⟩
    · rcases List.mem_cons.mp hp with rfl | hp
      · refine ⟨oL, hoL, .frame oL es ep _ hdL hkL hln ?_, fr.1, fr.2.1⟩
        intro x v hx
        obtain ⟨u, hu, ru⟩ := hl1 x v hx
        exact ⟨u, by rw [hfL]; exact hu, ru⟩
      · rcases List.mem_append.mp hp with hp | hp
        · obtain ⟨q, hq, rfl⟩ := List.mem_map.mp hp
          obtain ⟨hq1, hq2⟩ := hl2 q hq
          obtain ⟨oc, hoc, hdc⟩ := X.cell q.1 q.2.1 hq1
          obtain ⟨n1, n2, _⟩ := none_of q.2.1 (Nat.le_of_lt (above q hq))
          refine ⟨oc, hoc, ?_, n1, n2⟩
          dsimp only
          cases hv : q.2.2 with
          | none => exact .var0 oc _ hdc
          | some v =>
            obtain ⟨u, hu, ru⟩ := hq2 v hv
            exact .var oc u v (by rw [hdc]; exact congrArg Data.cell hu) ru
        · exact Ms.own p hp
    · rw [List.map_cons, List.nodup_cons, List.map_append, List.map_map, List.nodup_append]
      refine ⟨fun hm => ?_, hnd _, Ms.nodup, ?_⟩
      · rcases List.mem_append.mp hm with hm | hm
        · obtain ⟨q, hq, e⟩ := List.mem_map.mp hm
          have := above q hq
          have e' : q.2.1 = s.heap.objs.size := e
          rw [e'] at this
          exact Nat.lt_irrefl _ this
        · obtain ⟨p, hp, e⟩ := List.mem_map.mp hm
          exact fr.2.2 p hp e
      · intro b1 hb1 b2 hb2 e
        obtain ⟨q, hq, rfl⟩ := List.mem_map.mp hb1
        obtain ⟨p, hp, rfl⟩ := List.mem_map.mp hb2
        exact (none_of q.2.1 (Nat.le_of_lt (above q hq))).2.2 p hp e.symm
  refine wpNoE (hb pm code doc s.heap.objs.size (c.ad k) (ok.deeper hm _) W F' _ M2) fun f s1 h => ?_
  obtain ⟨W1, z, cs1, l1, r1, M3, q⟩ := h
  exact Out_fin q l1 r1 M3 back (fun f => match f with | .ret v => v | _ => .none) (fun _ => rfl) rfl

/-- a local dict that may turn is taken as one that stays -/
theorem frzLoc {α β : Type} {t : Sem α} {R : Wd → α → β → Prop} {QQ : β → Cs → Prop} {d L : Addr} {x : Str} {l : List (List Nat × V)} {loc loc' : List (Str × Option V)} {cs1 cs2 : Cs}
    (tk : Take d (.sd l) cs cs1) (lx : Loc x (.ref d) loc) (u : Upd L (.frame loc) (.frame loc') cs1 cs2) (lp : LocPut x (.sd l) loc loc') (ne : d ≠ sysModules) (h : G c A cs2 t R QQ) : G c A cs t R QQ := fun W F s M => by
  obtain ⟨o, ho1, ho2, M2, l2⟩ := (M.perm tk.perm).freeze
  refine wpNoE (h (W.put d o) F s ?_) fun r s' h => h.back l2
  obtain ⟨of, hf, hrf⟩ := M2.at u
  have hs : Heap.SameBut L s.heap s.heap := Heap.SameBut.refl _ _
  cases hrf with
  | frame _ es ep _ hd hk hn hh =>
    have := M2.upd u hs hf (y := .frame loc') (.frame of es ep loc' hd hk (by rw [lp.names]; exact hn) fun y v hy => ?_) s.toks
    · exact this
    · rcases lp.back hn _ hy with e | ⟨e, hne⟩
      · cases e
        obtain ⟨u0, h1, h2⟩ := hh x _ lx.mem
        refine ⟨u0, h1, ?_⟩
        cases h2
        cases ho1 with
        | sd es' n' _ r => exact .sd d es' n' l ne (by unfold Wd.put; rw [if_pos rfl]) (RelS.mono c.w c.ad l2 r)
      · exact hh y v e

/-- a dict that may turn is given as one that stays -/
theorem E_FrzS {e : Expr} (h : GE c A cs (eval e env) fun v cs1 => ∃ a l cs2, v = .ref a ∧ a ≠ sysModules ∧ Take a (.sd l) cs1 cs2 ∧ Q (.sd l) cs2) : GE c A cs (eval e env) Q := fun W F s M => by
  refine go (h W F s M) fun v s1 W1 z cs1 l1 r1 M1 ⟨a, l, cs2, e1, ne, t, q⟩ => ?_
  subst e1
  (first | cases r1 using Rel.intE | cases r1 using Rel.refE | cases r1 using RelL.nilE | cases r1 using Rel.strE | cases r1 using Rel.bytesE | cases r1 using Rel.noneE | cases r1 using Rel.boolE | cases r1 using Rel.listE | cases r1 using Rel.tupE | cases r1 using Rel.sdE | cases r1 using Rel.iddE | cases r1 using Rel.biE | cases r1 using Rel.tyE | cases r1 using Rel.rngE | cases r1)
  obtain ⟨o, ho1, ho2, M2, l2⟩ := (M1.perm t.perm).freeze
  cases ho1 with
  | sd vs n _ r => exact ⟨_, _, _, l1.trans l2, .sd a vs n _ ne (by unfold Wd.put; rw [if_pos rfl]) (RelS.mono c.w c.ad l2 r), M2, q⟩

/-- a try that goes through -/
theorem S_Try {body orelse : List Stmt} {h₀ : ExceptHandler} {hs : List ExceptHandler} {pos : Pos} {QF : VF → Cs → Prop}
    (h : GS c A cs (execs body env) fun f cs1 => match f with | .next => GS c A cs1 (execs orelse env) QF | f => QF f cs1) : GS c A cs (exec (.Try body (h₀ :: hs) orelse [] pos) env) QF := fun W F s M => by
  refine wpAny_Try_except (wpAny_mono (h W F s M) (fun f s1 ⟨W1, z, cs1, l1, r, M1, q⟩ => ?_) fun _ _ f => f.elim)
  cases r with
  | next => exact wpNoE (q W1 F s1 M1) fun r s3 h => h.back l1
  | brk => exact Post.back l1 (here .brk M1 q)
  | cont => exact Post.back l1 (here .cont M1 q)
  | ret v x h => exact Post.back l1 (here (.ret v x h) M1 q)
end
theorem Out_ret {L : Addr} {rest cs' : Cs} {Q : V → Cs → Prop} {v : V} (q : Q v rest) : Out L rest Q (.ret v) cs' := .inl ⟨[], List.nil_sublist _, q⟩
theorem Out_frz {L a : Addr} {l : List V} {rest cs' cs2 : Cs} {Q : V → Cs → Prop} (t : Take a (.list l) cs' cs2) (q : Q (.list l) rest) : Out L rest Q (.ret (.ref a)) cs' := .inr ⟨a, l, cs2, [], rfl, t, List.nil_sublist _, q⟩
theorem Out_next {L : Addr} {rest cs' : Cs} {Q : V → Cs → Prop} (q : Q .none rest) : Out L rest Q .next cs' := ⟨[], List.nil_sublist _, q⟩
theorem Ite_d {p : Prop} [Decidable p] {P R : Prop} (h : p → P) (k : ¬ p → R) : Ite (decide p) P R := ⟨fun e => h (of_decide_eq_true e), fun e => k (of_decide_eq_false e)⟩
theorem Ite_not {b : Bool} {P R : Prop} (h : Ite b R P) : Ite (!b) P R := ⟨fun e => h.2 (by simpa using e), fun e => h.1 (by simpa using e)⟩
theorem qI {Q : V → Cs → Prop} {cs : Cs} {i j : Int} (q : Q (.int i) cs) (e : j = i) : Q (.int j) cs := e ▸ q
theorem qV {Q : V → Cs → Prop} {cs : Cs} {i j : V} (q : Q i cs) (e : j = i) : Q j cs := e ▸ q

theorem LoopK_next {again : Cs → Prop} {Q : VF → Cs → Prop} {cs : Cs} (h : again cs) : LoopK again Q .next cs := h
theorem LoopK_ret {again : Cs → Prop} {Q : VF → Cs → Prop} {cs : Cs} {v : V} (h : Q (.ret v) cs) : LoopK again Q (.ret v) cs := h
theorem sz_and {xs : List V} {P : Prop} (h : P) (hz : xs.length ≤ 16777216 := by simp) : xs.length ≤ 16777216 ∧ P := ⟨hz, h⟩
section
variable {c : Cx} {A : Around} {env : Env}
theorem LoopK.mono {R R' : Cs → Prop} {Q : VF → Cs → Prop} (h : ∀ cs, R cs → R' cs) : ∀ z cs, LoopK R Q z cs → LoopK R' Q z cs
  | .next, _, k => h _ k
  | .cont, _, k => h _ k
  | .brk, _, k => k
  | .ret _, _, k => k
/-- a for loop: what holds ahead of each turn -/
theorem GF_inv {α : Type} {target : Expr} {body : List Stmt} {Q : VF → Cs → Prop} (hA : A.handled = none) (toV : α → V) (I : List α → Cs → Prop) (xs : List α)
    (step : ∀ don a rest, xs = don ++ a :: rest → ∀ cs, I don cs → Asg c A cs target env (toV a) fun _ cs1 => GS c A cs1 (execs body env) (LoopK (fun cs2 => I (don ++ [a]) cs2) Q))
    (fin : ∀ cs, I xs cs → Q .next cs) : ∀ cs, I [] cs → GF c A target body [] env (xs.map toV) cs Q := by
  have go : ∀ (rest don : List α), xs = don ++ rest → ∀ cs, I don cs → GF c A target body [] env (rest.map toV) cs Q := by
    intro rest
    induction rest with
    | nil => intro don hx cs hi; rw [List.append_nil] at hx; subst hx; exact GF.nil hA (fin cs hi)
    | cons a rest ih =>
      intro don hx cs hi
      refine GF.cons hA fun W F s v M r => ?_
      refine wpNoE (step don a rest hx cs hi W F s v M r) fun _ s1 ⟨W1, z, cs1, l1, r1, M1, q⟩ => ⟨W1, z, cs1, l1, r1, M1, ?_⟩
      exact G.mono q (LoopK.mono fun cs2 h2 => ih (don ++ [a]) (by rw [hx]; simp) cs2 h2)
  exact fun cs hi => go xs [] rfl cs hi
/-- a while loop: what holds ahead of each turn, and a number that falls -/
theorem GW_inv {test : Expr} {body orelse : List Stmt} {Q : VF → Cs → Prop} (I : Nat → Cs → Prop)
    (step : ∀ k cs, I k cs → GB c A cs (isTrue test env (eval test env)) fun b cs1 => Ite b (GS c A cs1 (execs body env) (LoopK (fun cs2 => ∃ m, m < k ∧ I m cs2) Q)) (GS c A cs1 (execs orelse env) Q)) :
    ∀ k cs, I k cs → GW c A cs test body orelse env Q := by
  intro k
  induction k using Nat.strongRecOn with
  | _ k ih =>
    intro cs hi
    refine GW.step (G.mono (step k cs hi) fun b cs1 h => ⟨fun e => ?_, h.2⟩)
    exact G.mono (h.1 e) (LoopK.mono fun cs2 ⟨m, hm, h2⟩ => ih m hm cs2 h2)
end
theorem Ite_dt {p : Prop} [Decidable p] {P R : Prop} (h : p) (k : P) : Ite (decide p) P R := ⟨fun _ => k, fun e => absurd h (of_decide_eq_false e)⟩
theorem Ite_df {p : Prop} [Decidable p] {P R : Prop} (h : ¬ p) (k : R) : Ite (decide p) P R := ⟨fun e => absurd (of_decide_eq_true e) h, fun _ => k⟩
section
variable {c : Cx} {A : Around} {cs : Cs} {x : List Nat} {v : V} {Q : V → Cs → Prop}
theorem M_joinBL {l : List (List Nat)} (h : IsL c cs v (l.map V.bytes)) (hz : x.length * l.length + (l.map List.length).sum ≤ 16777216) (q : Q (.bytes (joinN x l)) cs) : Bi c A cs "bytes.join" [.bytes x, v] Q := fun W F s vs M r => by
  cases r using RelL.consE with
  | cons u _ vs _ r rs => cases rs using RelL.consE with
    | cons u2 _ us _ r2 rs => (first | cases rs using Rel.intE | cases rs using Rel.refE | cases rs using RelL.nilE | cases rs using Rel.strE | cases rs using Rel.bytesE | cases rs using Rel.noneE | cases rs using Rel.boolE | cases rs using Rel.listE | cases rs using Rel.tupE | cases rs using Rel.sdE | cases rs using Rel.iddE | cases rs using Rel.biE | cases rs using Rel.tyE | cases rs using Rel.rngE | cases rs); cases r using Rel.bytesE with
      | bytes b t _ e =>
        obtain ⟨D, ws, n, rfl, hD, rl⟩ := h W F s u2 M r2
        obtain ⟨bl, h1, h2⟩ := RL.allBytes rl
        subst e
        have hlen : bl.length = l.length := by rw [← h2]; simp
        have hsum : ∀ (bl : List (Array UInt8)) (a : Nat), bl.foldl (· + ·.size) a = a + ((bl.map (fun b => b.toList.map UInt8.toNat)).map List.length).sum := by
          intro bl
          induction bl with
          | nil => simp
          | cons b bl ih => intro a; rw [List.foldl_cons, ih]; simp; lia
        have hjs : (Builtin.Bytes.joined b bl).size = (joinN (b.toList.map UInt8.toNat) l).length := by
          have := congrArg List.length (joined_eq b bl)
          rw [h2] at this
          simpa using this
        refine call_meetsIn byte_slot_join (PySem.W.typeIs_bytes _ _ _) byte_entry_join (byte_args_join _ _) (meets_join (n := n) h1 ?_ ?_) ⟨hD, fun t' n' => here (.bytes _ _ _ ?_) (M.toks _) q⟩
        · rw [hsum, h2]
          have e2 : b.size * (bl.length - 1) ≤ b.size * l.length := Nat.mul_le_mul_left _ (by lia)
          simp at hz
          lia
        · rw [hjs]
          have := joinN_len (b.toList.map UInt8.toNat) l
          lia
        · rw [joined_eq, h2]
end
section
variable {c : Cx} {A : Around} {cs : Cs} {env : Env} {x : List Nat} {i : Int} {k : Nat} {v y : V} {l : List V} {Q : V → Cs → Prop} {QU : Unit → Cs → Prop} {value slice : Expr}
theorem Sub_b (h0 : 0 ≤ i) (hk : x[i.toNat]? = some k) (hz : x.length ≤ 4096) (q : Q (.int k) cs) (hs : ∀ o i, subscripted slice false o i = operate [o, i] (getItem o i) := by intro _ _; with_unfolding_all rfl) : Sub c A cs value slice (.bytes x) (.int i) Q :=
  Sub_of PySem.W.FB.slot_bytes_getitem.lookup OfT_bytes (GI_bytes h0 (by have := (List.getElem?_eq_some_iff.mp hk).1; lia) (by lia) (by
    have : x.getD i.toNat 0 = k := by simp [List.getD, hk]
    rw [this]; exact q)) hs
theorem Sub_s (h0 : 0 ≤ i) (hk : x[i.toNat]? = some k) (hz : x.length ≤ 4096) (q : Q (.str [k]) cs) (hs : ∀ o i, subscripted slice false o i = operate [o, i] (getItem o i) := by intro _ _; with_unfolding_all rfl) : Sub c A cs value slice (.str x) (.int i) Q := by
  have hlt := (List.getElem?_eq_some_iff.mp hk).1
  exact Sub_of PySem.F.slot_str_getitem.lookup OfT_str (GI_str (by lia) (by lia) (by lia) (by rw [if_neg (by lia)]; exact hk) q) hs
theorem GI_L (h : IsL c cs v l) (h0 : 0 ≤ i) (hy : l[i.toNat]? = some y) (hz : l.length ≤ 16777216) (q : Q y cs) : GI c A cs v (.int i) Q := fun W F s u w M r1 r2 => by
  obtain ⟨a, us, n, rfl, ho, rl⟩ := h W F s u M r1
  (first | cases r2 using Rel.intE | cases r2 using Rel.refE | cases r2 using RelL.nilE | cases r2 using Rel.strE | cases r2 using Rel.bytesE | cases r2 using Rel.noneE | cases r2 using Rel.boolE | cases r2 using Rel.listE | cases r2 using Rel.tupE | cases r2 using Rel.sdE | cases r2 using Rel.iddE | cases r2 using Rel.biE | cases r2 using Rel.tyE | cases r2 using Rel.rngE | cases r2)
  have e := RL.len rl
  have hl := (List.getElem?_eq_some_iff.mp hy).1
  have hlt : i.toNat < us.length := by rw [e]; exact hl
  exact wpAny_getItem_list (items := us.toArray) ⟨_, ho, rfl, n, rfl⟩ h0 (by lia) (x := us[i.toNat]) (by simp [hlt]) (here (RL.get rl _ _ _ (by simp [hlt]) hy) M q)
theorem OfT_L (h : IsL c cs v l) : OfT c cs v "list" := fun W F s u M r => by
  obtain ⟨a, us, n, rfl, ho, rl⟩ := h W F s u M r
  exact ⟨⟨_, ho, rfl⟩, fun b e => by cases e; exact ⟨_, ho, rfl⟩⟩
theorem Sub_l (h : IsL c cs v l) (h0 : 0 ≤ i) (hy : l[i.toNat]? = some y) (hz : l.length ≤ 16777216) (q : Q y cs) (hs : ∀ o i, subscripted slice false o i = operate [o, i] (getItem o i) := by intro _ _; with_unfolding_all rfl) : Sub c A cs value slice v (.int i) Q :=
  Sub_of PySem.F.slot_list_getitem.lookup (OfT_L h) (GI_L h h0 hy hz q) hs
theorem Asgs_nil (q : QU () cs) : Asgs c A env [] [] cs QU := q
end
end U

/-! ## U18 -/
namespace U
open PySem PyProof.Rows PySem.Calls
theorem gm_fn (k : Nat) (hk : k ∈ fnIx) : (fnName k, V.fn k) ∈ glob0 := List.mem_append_left _ (List.mem_map.mpr ⟨k, hk, rfl⟩)
theorem fname8 : fnName 8 = Str.ofString "lower_code" := by kernel_rfl!
theorem gm8 : (Str.ofString "lower_code", V.fn 8) ∈ glob0 := fname8 ▸ gm_fn 8 (by decide)
theorem fname9 : fnName 9 = Str.ofString "lower" := by kernel_rfl!
theorem gm9 : (Str.ofString "lower", V.fn 9) ∈ glob0 := fname9 ▸ gm_fn 9 (by decide)
theorem fname10 : fnName 10 = Str.ofString "lower_text" := by kernel_rfl!
theorem gm10 : (Str.ofString "lower_text", V.fn 10) ∈ glob0 := fname10 ▸ gm_fn 10 (by decide)
theorem fname17 : fnName 17 = Str.ofString "charset_names" := by kernel_rfl!
theorem gm17 : (Str.ofString "charset_names", V.fn 17) ∈ glob0 := fname17 ▸ gm_fn 17 (by decide)
theorem fname18 : fnName 18 = Str.ofString "charset_name" := by kernel_rfl!
theorem gm18 : (Str.ofString "charset_name", V.fn 18) ∈ glob0 := fname18 ▸ gm_fn 18 (by decide)
theorem fname19 : fnName 19 = Str.ofString "need_charset" := by kernel_rfl!
theorem gm19 : (Str.ofString "need_charset", V.fn 19) ∈ glob0 := fname19 ▸ gm_fn 19 (by decide)
theorem fname20 : fnName 20 = Str.ofString "utf8_length" := by kernel_rfl!
theorem gm20 : (Str.ofString "utf8_length", V.fn 20) ∈ glob0 := fname20 ▸ gm_fn 20 (by decide)
theorem fname21 : fnName 21 = Str.ofString "utf8_octets" := by kernel_rfl!
theorem gm21 : (Str.ofString "utf8_octets", V.fn 21) ∈ glob0 := fname21 ▸ gm_fn 21 (by decide)
theorem fname22 : fnName 22 = Str.ofString "follower_span" := by kernel_rfl!
theorem gm22 : (Str.ofString "follower_span", V.fn 22) ∈ glob0 := fname22 ▸ gm_fn 22 (by decide)
theorem fname23 : fnName 23 = Str.ofString "utf8_sign" := by kernel_rfl!
theorem gm23 : (Str.ofString "utf8_sign", V.fn 23) ∈ glob0 := fname23 ▸ gm_fn 23 (by decide)
theorem fname24 : fnName 24 = Str.ofString "sign_at" := by kernel_rfl!
theorem gm24 : (Str.ofString "sign_at", V.fn 24) ∈ glob0 := fname24 ▸ gm_fn 24 (by decide)
theorem fname25 : fnName 25 = Str.ofString "text_in" := by kernel_rfl!
theorem gm25 : (Str.ofString "text_in", V.fn 25) ∈ glob0 := fname25 ▸ gm_fn 25 (by decide)
theorem fname26 : fnName 26 = Str.ofString "strict_text" := by kernel_rfl!
theorem gm26 : (Str.ofString "strict_text", V.fn 26) ∈ glob0 := fname26 ▸ gm_fn 26 (by decide)
theorem fname27 : fnName 27 = Str.ofString "guessed_text" := by kernel_rfl!
theorem gm27 : (Str.ofString "guessed_text", V.fn 27) ∈ glob0 := fname27 ▸ gm_fn 27 (by decide)
theorem fname28 : fnName 28 = Str.ofString "has_sign" := by kernel_rfl!
theorem gm28 : (Str.ofString "has_sign", V.fn 28) ∈ glob0 := fname28 ▸ gm_fn 28 (by decide)
theorem fname29 : fnName 29 = Str.ofString "octets_in" := by kernel_rfl!
theorem gm29 : (Str.ofString "octets_in", V.fn 29) ∈ glob0 := fname29 ▸ gm_fn 29 (by decide)
theorem fname33 : fnName 33 = Str.ofString "line_end" := by kernel_rfl!
theorem gm33 : (Str.ofString "line_end", V.fn 33) ∈ glob0 := fname33 ▸ gm_fn 33 (by decide)
theorem fname34 : fnName 34 = Str.ofString "inside_at" := by kernel_rfl!
theorem gm34 : (Str.ofString "inside_at", V.fn 34) ∈ glob0 := fname34 ▸ gm_fn 34 (by decide)
theorem fname35 : fnName 35 = Str.ofString "closed_at" := by kernel_rfl!
theorem gm35 : (Str.ofString "closed_at", V.fn 35) ∈ glob0 := fname35 ▸ gm_fn 35 (by decide)
theorem fname37 : fnName 37 = Str.ofString "escaped_octets" := by kernel_rfl!
theorem gm37 : (Str.ofString "escaped_octets", V.fn 37) ∈ glob0 := fname37 ▸ gm_fn 37 (by decide)
theorem fname52 : fnName 52 = Str.ofString "is_token_code" := by kernel_rfl!
theorem gm52 : (Str.ofString "is_token_code", V.fn 52) ∈ glob0 := fname52 ▸ gm_fn 52 (by decide)
theorem fname53 : fnName 53 = Str.ofString "skip_between" := by kernel_rfl!
theorem gm53 : (Str.ofString "skip_between", V.fn 53) ∈ glob0 := fname53 ▸ gm_fn 53 (by decide)
theorem fname54 : fnName 54 = Str.ofString "take_token" := by kernel_rfl!
theorem gm54 : (Str.ofString "take_token", V.fn 54) ∈ glob0 := fname54 ▸ gm_fn 54 (by decide)
theorem fname55 : fnName 55 = Str.ofString "is_worth_code" := by kernel_rfl!
theorem gm55 : (Str.ofString "is_worth_code", V.fn 55) ∈ glob0 := fname55 ▸ gm_fn 55 (by decide)
theorem fname56 : fnName 56 = Str.ofString "take_worth" := by kernel_rfl!
theorem gm56 : (Str.ofString "take_worth", V.fn 56) ∈ glob0 := fname56 ▸ gm_fn 56 (by decide)
theorem fname57 : fnName 57 = Str.ofString "small_word" := by kernel_rfl!
theorem gm57 : (Str.ofString "small_word", V.fn 57) ∈ glob0 := fname57 ▸ gm_fn 57 (by decide)
theorem fname58 : fnName 58 = Str.ofString "take_pairs" := by kernel_rfl!
theorem gm58 : (Str.ofString "take_pairs", V.fn 58) ∈ glob0 := fname58 ▸ gm_fn 58 (by decide)
theorem fname59 : fnName 59 = Str.ofString "part_number" := by kernel_rfl!
theorem gm59 : (Str.ofString "part_number", V.fn 59) ∈ glob0 := fname59 ▸ gm_fn 59 (by decide)
theorem fname60 : fnName 60 = Str.ofString "part_of" := by kernel_rfl!
theorem gm60 : (Str.ofString "part_of", V.fn 60) ∈ glob0 := fname60 ▸ gm_fn 60 (by decide)
theorem fname61 : fnName 61 = Str.ofString "hex_worth" := by kernel_rfl!
theorem gm61 : (Str.ofString "hex_worth", V.fn 61) ∈ glob0 := fname61 ▸ gm_fn 61 (by decide)
theorem fname62 : fnName 62 = Str.ofString "percent_decoded" := by kernel_rfl!
theorem gm62 : (Str.ofString "percent_decoded", V.fn 62) ∈ glob0 := fname62 ▸ gm_fn 62 (by decide)
theorem fname63 : fnName 63 = Str.ofString "charset_cut" := by kernel_rfl!
theorem gm63 : (Str.ofString "charset_cut", V.fn 63) ∈ glob0 := fname63 ▸ gm_fn 63 (by decide)
theorem fname64 : fnName 64 = Str.ofString "joined_worth" := by kernel_rfl!
theorem gm64 : (Str.ofString "joined_worth", V.fn 64) ∈ glob0 := fname64 ▸ gm_fn 64 (by decide)
theorem fname65 : fnName 65 = Str.ofString "params_of" := by kernel_rfl!
theorem gm65 : (Str.ofString "params_of", V.fn 65) ∈ glob0 := fname65 ▸ gm_fn 65 (by decide)
theorem fname66 : fnName 66 = Str.ofString "read_value" := by kernel_rfl!
theorem gm66 : (Str.ofString "read_value", V.fn 66) ∈ glob0 := fname66 ▸ gm_fn 66 (by decide)
theorem fname67 : fnName 67 = Str.ofString "is_token" := by kernel_rfl!
theorem gm67 : (Str.ofString "is_token", V.fn 67) ∈ glob0 := fname67 ▸ gm_fn 67 (by decide)
theorem fname68 : fnName 68 = Str.ofString "is_plain" := by kernel_rfl!
theorem gm68 : (Str.ofString "is_plain", V.fn 68) ∈ glob0 := fname68 ▸ gm_fn 68 (by decide)
theorem fname69 : fnName 69 = Str.ofString "percent_encoded" := by kernel_rfl!
theorem gm69 : (Str.ofString "percent_encoded", V.fn 69) ∈ glob0 := fname69 ▸ gm_fn 69 (by decide)
theorem fname70 : fnName 70 = Str.ofString "in_rows" := by kernel_rfl!
theorem gm70 : (Str.ofString "in_rows", V.fn 70) ∈ glob0 := fname70 ▸ gm_fn 70 (by decide)
theorem fname71 : fnName 71 = Str.ofString "encoded_rows" := by kernel_rfl!
theorem gm71 : (Str.ofString "encoded_rows", V.fn 71) ∈ glob0 := fname71 ▸ gm_fn 71 (by decide)
theorem fname72 : fnName 72 = Str.ofString "quoted_rows" := by kernel_rfl!
theorem gm72 : (Str.ofString "quoted_rows", V.fn 72) ∈ glob0 := fname72 ▸ gm_fn 72 (by decide)
theorem fname73 : fnName 73 = Str.ofString "number_octets" := by kernel_rfl!
theorem gm73 : (Str.ofString "number_octets", V.fn 73) ∈ glob0 := fname73 ▸ gm_fn 73 (by decide)
theorem fname74 : fnName 74 = Str.ofString "param_rows" := by kernel_rfl!
theorem gm74 : (Str.ofString "param_rows", V.fn 74) ∈ glob0 := fname74 ▸ gm_fn 74 (by decide)
theorem fname76 : fnName 76 = Str.ofString "_law_pot" := by kernel_rfl!
theorem gm76 : (Str.ofString "_law_pot", V.fn 76) ∈ glob0 := fname76 ▸ gm_fn 76 (by decide)
theorem fname77 : fnName 77 = Str.ofString "_law_draw" := by kernel_rfl!
theorem gm77 : (Str.ofString "_law_draw", V.fn 77) ∈ glob0 := fname77 ▸ gm_fn 77 (by decide)
theorem fname78 : fnName 78 = Str.ofString "_law_pieces" := by kernel_rfl!
theorem gm78 : (Str.ofString "_law_pieces", V.fn 78) ∈ glob0 := fname78 ▸ gm_fn 78 (by decide)
theorem fname79 : fnName 79 = Str.ofString "_law_parts_right" := by kernel_rfl!
theorem gm79 : (Str.ofString "_law_parts_right", V.fn 79) ∈ glob0 := fname79 ▸ gm_fn 79 (by decide)
theorem gm_Cursor : (Str.ofString "Cursor", (V.fn 7 : V)) ∈ glob0 := List.mem_append_right _ (List.Mem.head _)
theorem gm_ASCII : (Str.ofString "ASCII", (strV "us-ascii" : V)) ∈ glob0 := List.mem_append_right _ (List.Mem.tail _ (List.Mem.head _))
theorem gm_LATIN : (Str.ofString "LATIN", (strV "iso-8859-1" : V)) ∈ glob0 := List.mem_append_right _ (List.Mem.tail _ (List.Mem.tail _ (List.Mem.head _)))
theorem gm_UTF8 : (Str.ofString "UTF8", (strV "utf-8" : V)) ∈ glob0 := List.mem_append_right _ (List.Mem.tail _ (List.Mem.tail _ (List.Mem.tail _ (List.Mem.head _))))
theorem gm_CHARSETS : (Str.ofString "CHARSETS", (.tup [strV "us-ascii", strV "iso-8859-1", strV "utf-8"] : V)) ∈ glob0 := List.mem_append_right _ (List.Mem.tail _ (List.Mem.tail _ (List.Mem.tail _ (List.Mem.tail _ (List.Mem.head _)))))
theorem gm_NEVER_ESCAPED : (Str.ofString "NEVER_ESCAPED", (.tup [.int 0, .int 10, .int 13] : V)) ∈ glob0 := List.mem_append_right _ (List.Mem.tail _ (List.Mem.tail _ (List.Mem.tail _ (List.Mem.tail _ (List.Mem.tail _ (List.Mem.head _))))))
theorem gm_WHITE : (Str.ofString "WHITE", (.tup [.int 9, .int 10, .int 13, .int 32] : V)) ∈ glob0 := List.mem_append_right _ (List.Mem.tail _ (List.Mem.tail _ (List.Mem.tail _ (List.Mem.tail _ (List.Mem.tail _ (List.Mem.tail _ (List.Mem.head _)))))))
theorem gm_SEMICOLON : (Str.ofString "SEMICOLON", (.int 59 : V)) ∈ glob0 := List.mem_append_right _ (List.Mem.tail _ (List.Mem.tail _ (List.Mem.tail _ (List.Mem.tail _ (List.Mem.tail _ (List.Mem.tail _ (List.Mem.tail _ (List.Mem.head _))))))))
theorem gm_EQUALS : (Str.ofString "EQUALS", (.int 61 : V)) ∈ glob0 := List.mem_append_right _ (List.Mem.tail _ (List.Mem.tail _ (List.Mem.tail _ (List.Mem.tail _ (List.Mem.tail _ (List.Mem.tail _ (List.Mem.tail _ (List.Mem.tail _ (List.Mem.head _)))))))))
theorem gm_QUOTE : (Str.ofString "QUOTE", (.int 34 : V)) ∈ glob0 := List.mem_append_right _ (List.Mem.tail _ (List.Mem.tail _ (List.Mem.tail _ (List.Mem.tail _ (List.Mem.tail _ (List.Mem.tail _ (List.Mem.tail _ (List.Mem.tail _ (List.Mem.tail _ (List.Mem.head _))))))))))
theorem gm_BRACKET : (Str.ofString "BRACKET", (.int 40 : V)) ∈ glob0 := List.mem_append_right _ (List.Mem.tail _ (List.Mem.tail _ (List.Mem.tail _ (List.Mem.tail _ (List.Mem.tail _ (List.Mem.tail _ (List.Mem.tail _ (List.Mem.tail _ (List.Mem.tail _ (List.Mem.tail _ (List.Mem.head _)))))))))))
theorem gm_PER_CENT : (Str.ofString "PER_CENT", (.int 37 : V)) ∈ glob0 := List.mem_append_right _ (List.Mem.tail _ (List.Mem.tail _ (List.Mem.tail _ (List.Mem.tail _ (List.Mem.tail _ (List.Mem.tail _ (List.Mem.tail _ (List.Mem.tail _ (List.Mem.tail _ (List.Mem.tail _ (List.Mem.tail _ (List.Mem.head _))))))))))))
theorem gm_BARRED : (Str.ofString "BARRED", (.bytes [40, 41, 60, 62, 64, 44, 59, 58, 92, 34, 47, 91, 93, 63, 61] : V)) ∈ glob0 := List.mem_append_right _ (List.Mem.tail _ (List.Mem.tail _ (List.Mem.tail _ (List.Mem.tail _ (List.Mem.tail _ (List.Mem.tail _ (List.Mem.tail _ (List.Mem.tail _ (List.Mem.tail _ (List.Mem.tail _ (List.Mem.tail _ (List.Mem.tail _ (List.Mem.head _)))))))))))))
theorem gm_BARRED_IN_NAMES : (Str.ofString "BARRED_IN_NAMES", (.bytes [42, 39, 37] : V)) ∈ glob0 := List.mem_append_right _ (List.Mem.tail _ (List.Mem.tail _ (List.Mem.tail _ (List.Mem.tail _ (List.Mem.tail _ (List.Mem.tail _ (List.Mem.tail _ (List.Mem.tail _ (List.Mem.tail _ (List.Mem.tail _ (List.Mem.tail _ (List.Mem.tail _ (List.Mem.tail _ (List.Mem.head _))))))))))))))
theorem gm_HEX_FIGURES : (Str.ofString "HEX_FIGURES", (.bytes [48, 49, 50, 51, 52, 53, 54, 55, 56, 57, 65, 66, 67, 68, 69, 70] : V)) ∈ glob0 := List.mem_append_right _ (List.Mem.tail _ (List.Mem.tail _ (List.Mem.tail _ (List.Mem.tail _ (List.Mem.tail _ (List.Mem.tail _ (List.Mem.tail _ (List.Mem.tail _ (List.Mem.tail _ (List.Mem.tail _ (List.Mem.tail _ (List.Mem.tail _ (List.Mem.tail _ (List.Mem.tail _ (List.Mem.head _)))))))))))))))
theorem gm_WIDTH : (Str.ofString "WIDTH", (.int 78 : V)) ∈ glob0 := List.mem_append_right _ (List.Mem.tail _ (List.Mem.tail _ (List.Mem.tail _ (List.Mem.tail _ (List.Mem.tail _ (List.Mem.tail _ (List.Mem.tail _ (List.Mem.tail _ (List.Mem.tail _ (List.Mem.tail _ (List.Mem.tail _ (List.Mem.tail _ (List.Mem.tail _ (List.Mem.tail _ (List.Mem.tail _ (List.Mem.head _))))))))))))))))
theorem gm_MOST_NAME : (Str.ofString "MOST_NAME", (.int 40 : V)) ∈ glob0 := List.mem_append_right _ (List.Mem.tail _ (List.Mem.tail _ (List.Mem.tail _ (List.Mem.tail _ (List.Mem.tail _ (List.Mem.tail _ (List.Mem.tail _ (List.Mem.tail _ (List.Mem.tail _ (List.Mem.tail _ (List.Mem.tail _ (List.Mem.tail _ (List.Mem.tail _ (List.Mem.tail _ (List.Mem.tail _ (List.Mem.tail _ (List.Mem.head _)))))))))))))))))
theorem gm_MOST_PARTS : (Str.ofString "MOST_PARTS", (.int 1000 : V)) ∈ glob0 := List.mem_append_right _ (List.Mem.tail _ (List.Mem.tail _ (List.Mem.tail _ (List.Mem.tail _ (List.Mem.tail _ (List.Mem.tail _ (List.Mem.tail _ (List.Mem.tail _ (List.Mem.tail _ (List.Mem.tail _ (List.Mem.tail _ (List.Mem.tail _ (List.Mem.tail _ (List.Mem.tail _ (List.Mem.tail _ (List.Mem.tail _ (List.Mem.tail _ (List.Mem.head _))))))))))))))))))
theorem gm_ROOM : (Str.ofString "ROOM", (.int 66 : V)) ∈ glob0 := List.mem_append_right _ (List.Mem.tail _ (List.Mem.tail _ (List.Mem.tail _ (List.Mem.tail _ (List.Mem.tail _ (List.Mem.tail _ (List.Mem.tail _ (List.Mem.tail _ (List.Mem.tail _ (List.Mem.tail _ (List.Mem.tail _ (List.Mem.tail _ (List.Mem.tail _ (List.Mem.tail _ (List.Mem.tail _ (List.Mem.tail _ (List.Mem.tail _ (List.Mem.tail _ (List.Mem.head _)))))))))))))))))))
theorem ng_len : Str.ofString "len" ∈ noGlob0 := List.Mem.head _
theorem EB_len {c : Cx} {A : Around} {cs : Cs} {env : Env} {pos : Pos} {Q : V → Cs → Prop} (q : Q (.bi "len") cs)
    (hx : env.kindOf (Str.ofString "len") = some .globalImplicit := by kernel_rfl!) (hk : env.scope.kind = .function := by kernel_rfl!) (hg : env.globals = mainGlobals := by kernel_rfl!) (hb : env.builtins = builtinsNs := by kernel_rfl!) :
    GE c A cs (eval (.Name (Str.ofString "len") pos) env) Q := E_builtin (u := .builtin "len") (v := .bi "len") (by decide +kernel) ng_len (fun _ => .bi _) q hx hk hg hb
theorem ng_bytes : Str.ofString "bytes" ∈ noGlob0 := List.Mem.tail _ (List.Mem.head _)
theorem EB_bytes {c : Cx} {A : Around} {cs : Cs} {env : Env} {pos : Pos} {Q : V → Cs → Prop} (q : Q (.ty "bytes") cs)
    (hx : env.kindOf (Str.ofString "bytes") = some .globalImplicit := by kernel_rfl!) (hk : env.scope.kind = .function := by kernel_rfl!) (hg : env.globals = mainGlobals := by kernel_rfl!) (hb : env.builtins = builtinsNs := by kernel_rfl!) :
    GE c A cs (eval (.Name (Str.ofString "bytes") pos) env) Q := E_builtin (u := .type "bytes") (v := .ty "bytes") (by decide +kernel) ng_bytes (fun _ => .ty _) q hx hk hg hb
theorem ng_chr : Str.ofString "chr" ∈ noGlob0 := List.Mem.tail _ (List.Mem.tail _ (List.Mem.head _))
theorem EB_chr {c : Cx} {A : Around} {cs : Cs} {env : Env} {pos : Pos} {Q : V → Cs → Prop} (q : Q (.bi "chr") cs)
    (hx : env.kindOf (Str.ofString "chr") = some .globalImplicit := by kernel_rfl!) (hk : env.scope.kind = .function := by kernel_rfl!) (hg : env.globals = mainGlobals := by kernel_rfl!) (hb : env.builtins = builtinsNs := by kernel_rfl!) :
    GE c A cs (eval (.Name (Str.ofString "chr") pos) env) Q := E_builtin (u := .builtin "chr") (v := .bi "chr") (by decide +kernel) ng_chr (fun _ => .bi _) q hx hk hg hb
theorem ng_ord : Str.ofString "ord" ∈ noGlob0 := List.Mem.tail _ (List.Mem.tail _ (List.Mem.tail _ (List.Mem.head _)))
theorem EB_ord {c : Cx} {A : Around} {cs : Cs} {env : Env} {pos : Pos} {Q : V → Cs → Prop} (q : Q (.bi "ord") cs)
    (hx : env.kindOf (Str.ofString "ord") = some .globalImplicit := by kernel_rfl!) (hk : env.scope.kind = .function := by kernel_rfl!) (hg : env.globals = mainGlobals := by kernel_rfl!) (hb : env.builtins = builtinsNs := by kernel_rfl!) :
    GE c A cs (eval (.Name (Str.ofString "ord") pos) env) Q := E_builtin (u := .builtin "ord") (v := .bi "ord") (by decide +kernel) ng_ord (fun _ => .bi _) q hx hk hg hb
theorem ng_range : Str.ofString "range" ∈ noGlob0 := List.Mem.tail _ (List.Mem.tail _ (List.Mem.tail _ (List.Mem.tail _ (List.Mem.head _))))
theorem EB_range {c : Cx} {A : Around} {cs : Cs} {env : Env} {pos : Pos} {Q : V → Cs → Prop} (q : Q (.ty "range") cs)
    (hx : env.kindOf (Str.ofString "range") = some .globalImplicit := by kernel_rfl!) (hk : env.scope.kind = .function := by kernel_rfl!) (hg : env.globals = mainGlobals := by kernel_rfl!) (hb : env.builtins = builtinsNs := by kernel_rfl!) :
    GE c A cs (eval (.Name (Str.ofString "range") pos) env) Q := E_builtin (u := .type "range") (v := .ty "range") (by decide +kernel) ng_range (fun _ => .ty _) q hx hk hg hb
theorem ng_str : Str.ofString "str" ∈ noGlob0 := List.Mem.tail _ (List.Mem.tail _ (List.Mem.tail _ (List.Mem.tail _ (List.Mem.tail _ (List.Mem.head _)))))
theorem EB_str {c : Cx} {A : Around} {cs : Cs} {env : Env} {pos : Pos} {Q : V → Cs → Prop} (q : Q (.ty "str") cs)
    (hx : env.kindOf (Str.ofString "str") = some .globalImplicit := by kernel_rfl!) (hk : env.scope.kind = .function := by kernel_rfl!) (hg : env.globals = mainGlobals := by kernel_rfl!) (hb : env.builtins = builtinsNs := by kernel_rfl!) :
    GE c A cs (eval (.Name (Str.ofString "str") pos) env) Q := E_builtin (u := .type "str") (v := .ty "str") (by decide +kernel) ng_str (fun _ => .ty _) q hx hk hg hb
theorem ng_int : Str.ofString "int" ∈ noGlob0 := List.Mem.tail _ (List.Mem.tail _ (List.Mem.tail _ (List.Mem.tail _ (List.Mem.tail _ (List.Mem.tail _ (List.Mem.head _))))))
theorem EB_int {c : Cx} {A : Around} {cs : Cs} {env : Env} {pos : Pos} {Q : V → Cs → Prop} (q : Q (.ty "int") cs)
    (hx : env.kindOf (Str.ofString "int") = some .globalImplicit := by kernel_rfl!) (hk : env.scope.kind = .function := by kernel_rfl!) (hg : env.globals = mainGlobals := by kernel_rfl!) (hb : env.builtins = builtinsNs := by kernel_rfl!) :
    GE c A cs (eval (.Name (Str.ofString "int") pos) env) Q := E_builtin (u := .type "int") (v := .ty "int") (by decide +kernel) ng_int (fun _ => .ty _) q hx hk hg hb
theorem ng_abs : Str.ofString "abs" ∈ noGlob0 := List.Mem.tail _ (List.Mem.tail _ (List.Mem.tail _ (List.Mem.tail _ (List.Mem.tail _ (List.Mem.tail _ (List.Mem.tail _ (List.Mem.head _)))))))
theorem EB_abs {c : Cx} {A : Around} {cs : Cs} {env : Env} {pos : Pos} {Q : V → Cs → Prop} (q : Q (.bi "abs") cs)
    (hx : env.kindOf (Str.ofString "abs") = some .globalImplicit := by kernel_rfl!) (hk : env.scope.kind = .function := by kernel_rfl!) (hg : env.globals = mainGlobals := by kernel_rfl!) (hb : env.builtins = builtinsNs := by kernel_rfl!) :
    GE c A cs (eval (.Name (Str.ofString "abs") pos) env) Q := E_builtin (u := .builtin "abs") (v := .bi "abs") (by decide +kernel) ng_abs (fun _ => .bi _) q hx hk hg hb
theorem ng_max : Str.ofString "max" ∈ noGlob0 := List.Mem.tail _ (List.Mem.tail _ (List.Mem.tail _ (List.Mem.tail _ (List.Mem.tail _ (List.Mem.tail _ (List.Mem.tail _ (List.Mem.tail _ (List.Mem.head _))))))))
theorem EB_max {c : Cx} {A : Around} {cs : Cs} {env : Env} {pos : Pos} {Q : V → Cs → Prop} (q : Q (.bi "max") cs)
    (hx : env.kindOf (Str.ofString "max") = some .globalImplicit := by kernel_rfl!) (hk : env.scope.kind = .function := by kernel_rfl!) (hg : env.globals = mainGlobals := by kernel_rfl!) (hb : env.builtins = builtinsNs := by kernel_rfl!) :
    GE c A cs (eval (.Name (Str.ofString "max") pos) env) Q := E_builtin (u := .builtin "max") (v := .bi "max") (by decide +kernel) ng_max (fun _ => .bi _) q hx hk hg hb
theorem ng_list : Str.ofString "list" ∈ noGlob0 := List.Mem.tail _ (List.Mem.tail _ (List.Mem.tail _ (List.Mem.tail _ (List.Mem.tail _ (List.Mem.tail _ (List.Mem.tail _ (List.Mem.tail _ (List.Mem.tail _ (List.Mem.head _)))))))))
theorem EB_list {c : Cx} {A : Around} {cs : Cs} {env : Env} {pos : Pos} {Q : V → Cs → Prop} (q : Q (.ty "list") cs)
    (hx : env.kindOf (Str.ofString "list") = some .globalImplicit := by kernel_rfl!) (hk : env.scope.kind = .function := by kernel_rfl!) (hg : env.globals = mainGlobals := by kernel_rfl!) (hb : env.builtins = builtinsNs := by kernel_rfl!) :
    GE c A cs (eval (.Name (Str.ofString "list") pos) env) Q := E_builtin (u := .type "list") (v := .ty "list") (by decide +kernel) ng_list (fun _ => .ty _) q hx hk hg hb
end U

/-! ## U19 -/
namespace U
open PySem PyProof.Rows PySem.Calls
section
variable {c : Cx} {α β : Type} {A : Around} {cs : Cs} {env : Env} {Q : V → Cs → Prop} {QB : Bool → Cs → Prop} {QF : VF → Cs → Prop} {QU : Unit → Cs → Prop}
variable {k : Nat} {pm code doc : Value} {L a : Addr} {x : Str} {pos : Pos} {v : V} {loc loc' : List (Str × Option V)} {cs1 : Cs}
theorem E_lK (h : At L (.frame loc) cs) (l : Loc x v loc) (q : Q v cs) (hx : (envK k pm code doc L a).kindOf x = some .local := by kernel_rfl!)
    (hk : (envK k pm code doc L a).scope.kind = .function := by kernel_rfl!) (hd : (x == ("__debug__" : Str)) = false := by decide +kernel) : GE c A cs (eval (.Name x pos) (envK k pm code doc L a)) Q := E_local h l q hk hx hd
theorem E_lC {sc : Scope} {cl : List (Str × Addr)} {C : Addr} (h : At C (.frame loc) cs) (l : Loc x v loc) (q : Q v cs) (hx : (compEnvC sc cl C env).kindOf x = some .local := by kernel_rfl!)
    (hk : (compEnvC sc cl C env).scope.kind = .function := by kernel_rfl!) (hd : (x == ("__debug__" : Str)) = false := by decide +kernel) : GE c A cs (eval (.Name x pos) (compEnvC sc cl C env)) Q := E_local h l q hk hx hd
theorem S_AsK {pos' : Pos} {value : Expr}
    (h : GE c A cs (eval value (envK k pm code doc L a)) fun v cs1 => ∃ loc loc' cs2, Upd L (.frame loc) (.frame loc') cs1 cs2 ∧ LocPut x v loc loc' ∧ QF .next cs2)
    (hx : (envK k pm code doc L a).kindOf x = some .local := by kernel_rfl!) (hk : (envK k pm code doc L a).scope.kind = .function := by kernel_rfl!)
    (hs : swapsWith value (some (.Name x pos')) pos.line (envK k pm code doc L a) = pure false := by with_unfolding_all rfl) : GS c A cs (exec (.Assign [.Name x pos'] value pos) (envK k pm code doc L a)) QF := S_Assign h hx hk hs
theorem S_AsKC {pos' : Pos} {value : Expr}
    (h : GE c A cs (eval value (envKC k pm code doc L a)) fun v cs1 => ∃ loc loc' cs2, Upd L (.frame loc) (.frame loc') cs1 cs2 ∧ LocPut x v loc loc' ∧ QF .next cs2)
    (hx : (envKC k pm code doc L a).kindOf x = some .local := by kernel_rfl!) (hk : (envKC k pm code doc L a).scope.kind = .function := by kernel_rfl!)
    (hs : swapsWith value (some (.Name x pos')) pos.line (envKC k pm code doc L a) = pure false := by with_unfolding_all rfl) : GS c A cs (exec (.Assign [.Name x pos'] value pos) (envKC k pm code doc L a)) QF := S_Assign h hx hk hs
theorem Asg_nK (u : Upd L (.frame loc) (.frame loc') cs cs1) (l : LocPut x v loc loc') (q : QU () cs1)
    (hx : (envK k pm code doc L a).kindOf x = some .local := by kernel_rfl!) (hk : (envK k pm code doc L a).scope.kind = .function := by kernel_rfl!) : Asg c A cs (.Name x pos) (envK k pm code doc L a) v QU := Asg_Name u l q hx hk
end
theorem exInt {i : Int} {P : Int → Prop} (h : P i) : ∃ j, V.int i = V.int j ∧ P j := ⟨i, rfl, h⟩
end U

/-! ## U20 -/
namespace U
open PySem PyProof.Rows PySem.Calls

/-! ### an own class's things: Cursor -/
noncomputable def putS : List (List Nat × V) → List Nat → V → List (List Nat × V)
  | [], k, v => [(k, v)]
  | (k', v') :: r, k, v => if k' = k then (k', v) :: r else (k', v') :: putS r k v

theorem putS_len (k : List Nat) (v : V) : ∀ l, (putS l k v).length ≤ l.length + 1
  | [] => Nat.le_refl _
  | (k', v') :: r => by
    have := putS_len k v r
    unfold putS
    split
    · simp
    · rw [List.length_cons, List.length_cons]; lia
theorem isStr_iff (k n : Str) (t : Tok) : (Value.str k t).isStr n = decide (k.cps.toList = n.cps.toList) := by
  show (k == n) = _
  rw [Bool.eq_iff_iff, beq_iff_eq, decide_eq_true_iff]
  exact ⟨fun e => by rw [e], strEq⟩

section
variable {c : Cx} {W : Wd}
theorem RelS.len {es : List DictEntry} {l : List (List Nat × V)} (r : RelS c.w c.ad W es l) : es.length = l.length := by
  induction es generalizing l with
  | nil => (first | cases r using Rel.intE | cases r using Rel.refE | cases r using RelL.nilE | cases r using Rel.strE | cases r using Rel.bytesE | cases r using Rel.noneE | cases r using Rel.boolE | cases r using Rel.listE | cases r using Rel.tupE | cases r using Rel.sdE | cases r using Rel.iddE | cases r using Rel.biE | cases r using Rel.tyE | cases r using Rel.rngE | cases r); rfl
  | cons e es ih => cases r with
    | cons k t v x _ l h r => simp [ih r]

noncomputable def putF (h : Int) (key v : Value) : Option DictEntry → DictEntry
  | some e => { e with val := v }
  | none => ⟨h, key, v⟩
noncomputable def putEs (name : Str) (h : Int) (key v : Value) (es : List DictEntry) : List DictEntry := (nsPutIn name.cps.size name.cps.toList (putF h key v) es).1

theorem putName_eq (name : Str) (h : Int) (key v : Value) (es : List DictEntry) (n : Nat) : ∃ n', Obj.putName name h key v (dictObj es n) = dictObj (putEs name h key v es) n' := by
  unfold dictObj Obj.putName
  have e : (fun x => match x with | some e => { e with val := v } | none => ⟨h, key, v⟩ : Option DictEntry → DictEntry) = putF h key v := by
    funext x; cases x <;> rfl
  dsimp only
  split
  · rename_i es' he
    refine ⟨n, ?_⟩
    have := congrArg Prod.fst he
    dsimp only at this
    unfold putEs
    rw [← e, ← this]; rfl
  · rename_i es' he
    refine ⟨n + 1, ?_⟩
    have := congrArg Prod.fst he
    dsimp only at this
    unfold putEs
    rw [← e, ← this]; rfl

theorem putEs_rel {name : Str} {t : Tok} {u : Value} {v : V} (ru : RV c W u v) {es : List DictEntry} : ∀ {l : List (List Nat × V)}, RelS c.w c.ad W es l →
    RelS c.w c.ad W (putEs name (hashStr c.w name) (.str name t) u es) (putS l name.cps.toList v) := by
  induction es with
  | nil =>
    intro l r
    cases r
    exact .cons name t u v [] [] ru .nil
  | cons _ es ih =>
    intro l r
    cases r with | cons k t' w x _ l h r =>
    replace ih := ih r
    unfold putEs at ih ⊢
    rw [nsPutIn]
    rw [Value.isStrByCps_eq, isStr_iff]
    unfold putS
    by_cases e : k.cps.toList = name.cps.toList
    · rw [if_pos e, decide_eq_true e, if_pos rfl]
      exact .cons k t' u v es l ru r
    · rw [if_neg e, decide_eq_false e, if_neg (by decide)]
      exact .cons k t' w x _ _ h ih

theorem noRef {es : List DictEntry} {l : List (List Nat × V)} (r : RelS c.w c.ad W es l) : es.any (·.refKey) = false := by
  induction es generalizing l with
  | nil => rfl
  | cons e es ih => cases r with
    | cons k t v x _ l h r => rw [List.any_cons, ih r]; rfl

/-- what a thing holds by a name -/
inductive SAt (k : List Nat) (v : V) : List (List Nat × V) → Prop
  | head (r : List (List Nat × V)) : SAt k v ((k, v) :: r)
  | tail (p : List Nat × V) {r : List (List Nat × V)} (hn : p.1 ≠ k) (h : SAt k v r) : SAt k v (p :: r)

theorem lookIn_at' {name : Str} {k₀ : List Nat} (hk : name.cps.toList = k₀) {v : V} {n : Nat} {es : List DictEntry} : ∀ {l : List (List Nat × V)}, RelS c.w c.ad W es l → SAt k₀ v l → ∃ u, PySem.W.lookIn name (dictObj es n) = some (some u) ∧ RV c W u v := by
  induction es with
  | nil =>
    intro l r hs
    cases r
    cases hs
  | cons _ es ih =>
    intro l r hs
    cases r with | cons k t w x _ l h r =>
    unfold PySem.W.lookIn dictObj
    dsimp only
    rw [List.find?_cons, isStr_iff, hk]
    revert hs
    generalize k.cps.toList = k₁
    intro hs
    cases hs with
    | head _ => rw [decide_eq_true rfl]; exact ⟨_, rfl, h⟩
    | tail _ hn hs =>
      rw [decide_eq_false hn]
      have := ih r hs
      unfold PySem.W.lookIn dictObj at this
      dsimp only at this
      obtain ⟨u, e, ru⟩ := this
      refine ⟨u, ?_, ru⟩
      dsimp only
      rw [List.any_cons]
      show (match List.find? (fun x => x.key.isStr name) es with | some e => some (some e.val) | none => if (false || es.any (·.refKey)) = true then none else some none) = _
      rw [Bool.false_or]; exact e
theorem lookIn_at {name : Str} {v : V} {n : Nat} {l : List (List Nat × V)} {es : List DictEntry} (r : RelS c.w c.ad W es l) (h : SAt name.cps.toList v l) : ∃ u, PySem.W.lookIn name (dictObj es n) = some (some u) ∧ RV c W u v := lookIn_at' rfl r h
theorem lookIn_no {name : Str} {n : Nat} {l : List (List Nat × V)} {es : List DictEntry} (r : RelS c.w c.ad W es l) (hs : name.cps.toList ∉ l.map (·.1)) : PySem.W.lookIn name (dictObj es n) = some none := by
  unfold PySem.W.lookIn dictObj
  dsimp only
  have : es.find? (·.key.isStr name) = none := by
    induction es generalizing l with
    | nil => rfl
    | cons e es ih => cases r with
      | cons k t w x _ l h r =>
        rw [List.map_cons, List.mem_cons, not_or] at hs
        rw [List.find?_cons, isStr_iff, decide_eq_false (fun e => hs.1 e.symm)]
        exact ih r hs.2
  rw [this, noRef r]; rfl
end

section
variable {c : Cx} {α β : Type} {A : Around} {cs cs' : Cs} {env : Env} {d : Addr} {l : List (List Nat × V)} {v : V} {Q : V → Cs → Prop} {QU : Unit → Cs → Prop}

theorem instAt {W F : Wd} {s : Shared} {u : Value} (M : MdlC c W F cs s) (r : RV c W u (.inst d)) (a : At d (.sd l) cs) :
    ∃ x es n, u = .ref x ∧ s.heap.get? d = some (dictObj es n) ∧ RelS c.w c.ad W es l ∧ PySem.W.InstAt s.heap x (curObj (c.ad 7) d) (c.ad 7) (some (dictObj es n)) := by
  obtain ⟨o, ho, hr, _⟩ := M.own _ a.mem
  cases hr with
  | sd es n _ rs =>
    cases r using Rel.instE with
    | inst x _ hx => exact ⟨x, es, n, rfl, ho, rs, ⟨M.hw _ _ hx, rfl, rfl, ho⟩⟩

theorem kIn {W F : Wd} {s : Shared} (M : MdlC c W F cs s) : c.K.In s.heap := c.kin.keeps fun b o e => M.hw _ _ (M.base _ _ e)

theorem handedV {W : Wd} {u : Value} (h : RV c W u v) (hb : ∀ id, v ≠ .bi id) : PySem.W.handedIn u = true := by
  cases h with
  | bi id => exact absurd rfl (hb id)
  | _ => rfl

/-- a field read -/
theorem E_Attr {o : Expr} {attr : Str} {pos : Pos}
    (h : GE c A cs (eval o env) fun ov cs1 => ∃ d l v, ov = .inst d ∧ At d (.sd l) cs1 ∧ SAt attr.cps.toList v l ∧ (∀ id, v ≠ .bi id) ∧ Q v cs1)
    (ha : attr ∈ [Str.ofString "data", Str.ofString "at", Str.ofString "end"] := by decide +kernel)
    (he : eval (.Attribute o attr pos) env = (do
      let o' ← eval o env
      standAt pos.atName
      let r ← holding [o'] (getAttr o' attr true)
      letTemporaryGo o o' r
      pure r) := by with_unfolding_all rfl) :
    GE c A cs (eval (.Attribute o attr pos) env) Q :=
  fun W F s M => Attribute_any_ (he := he) (go (h W F s M) fun u s1 W1 ov cs1 l1 r1 M1 ⟨d, l, v, e, a, hs, hb, q⟩ => by
    subst e
    obtain ⟨x, es, n, rfl, hd, rs, I⟩ := instAt M1 r1 a
    obtain ⟨u, hl, ru⟩ := lookIn_at (n := n) rs hs
    exact PySem.W.get_value (kIn M1) I c.kga (PySem.W.findObj_own c.khas (c.kattr _ ha) rfl hl) (handedV ru hb) (Post.back l1 (here ru (M1.toks _) q)))

/-- a field stored -/
theorem SA_inst {attr : Str} (u : Upd d (.sd l) (.sd (putS l attr.cps.toList v)) cs cs') (hz : l.length ≤ 1000) (q : QU () cs')
    (ha : attr ∈ [Str.ofString "data", Str.ofString "at", Str.ofString "end"] := by decide +kernel) : Op2 c A cs (fun a b => setAttr a attr b) (.inst d) v RU QU := by
  intro W F s a b M ra rb
  obtain ⟨o, ho, hr⟩ := M.at u
  cases hr with
  | sd es n _ rs =>
    cases ra using Rel.instE with
    | inst x _ hx =>
      have I : PySem.W.InstAt s.heap x (curObj (c.ad 7) d) (c.ad 7) (some (dictObj es n)) := ⟨M.hw _ _ hx, rfl, rfl, ho⟩
      have X := kIn M
      have hd := c.khas
      obtain ⟨cd, hc, hd'⟩ := PySem.W.any_some hd
      have ht : PySem.W.takerIn c.K (c.ad 7) attr = some none := by
        unfold PySem.W.takerIn; rw [c.kattr _ ha]; rfl
      refine PySem.W.set_plain X I c.ksa ?_
      refine PySem.W.osa_open (s := { s with toks := s.toks + 1 }) X I c.kover ht fun b' => ?_
      refine wpAny_bind (wpAny_pure (wpAny_bind (wpAny_bind (wpAny_loadPart (M.hw _ _ hx) (wpAny_bind ((PySem.W.looks_clsIn X hc).at ?_))))))
      rw [hd']
      refine wpAny_pure (a := some d) (wpAny_bind (wpAny_pure (wpAny_bind ?_)))
      unfold nsSet
      refine wpAny_bind (wpAny_bind (wpAny_askSetting (wpAny_pure (wpAny_bind (wpAny_mkText (wpAny_bind (wpAny_loadPart ho ?_)))))))
      obtain ⟨n', hp⟩ := putName_eq attr (hashStr c.w attr) (.str attr (s.toks + 1)) b es n
      have cc : aRefKeyMayBeTheName attr es.toArray = false := by
        have h2 : es.toArray.any (fun x => x.refKey) = false := by rw [← Array.any_toList]; exact noRef rs
        rw [aRefKeyMayBeTheName_at, h2, Bool.and_false]
      show wpAny _ _ (if aRefKeyMayBeTheName attr es.toArray = true then _ else updatePart d _ _) _ _ _
      rw [cc]
      refine wpAny_updatePart ho ?_
      have hs : (s.heap.update d (Obj.putName attr (hashStr c.w attr) (.str attr (s.toks + 1)) b)).get? d = some (dictObj (putEs attr (hashStr c.w attr) (.str attr (s.toks + 1)) b es) n') := by
        rw [← hp]; exact Heap.get?_update_self _ ho (by rw [hp]; rfl)
      have rr := putEs_rel (name := attr) (t := s.toks + 1) rb rs
      have hlen := putS_len attr.cps.toList v l
      refine wpAny_bind (wpAny_lookBehind hs (pastItsLine_dict (by rw [List.size_toArray, rr.len, sizeL]; lia)) ?_)
      exact wpAny_pure (here trivial (M.upd u (Heap.SameBut.update ..) hs (.sd _ n' _ rr) _) q)

theorem methAt {k : Nat} (hk : k ∈ [100, 101, 102, 103]) : ∃ o fd, c.s₀.heap.get? (c.ad k) = some o ∧ o.data = .func fd := by
  by_cases h : k ∈ [100, 102]
  · obtain ⟨o, pm, code, doc, T, items, n, ho, hd, _⟩ := c.mfns k h; exact ⟨o, _, ho, hd⟩
  · obtain ⟨o, pm, code, doc, ho, hd, _⟩ := c.fns k (List.mem_append_right _ (by simp at hk h ⊢; lia)); exact ⟨o, _, ho, hd⟩

/-- a method of an own class's thing -/
theorem MethV_inst (k : Nat) {pos : Pos} {name : Str} {args : List Expr} (a : At d (.sd l) cs) (hno : name.cps.toList ∉ l.map (·.1)) (h : ArgsG c A env args cs fun xs cs2 => Cal c A cs2 k (.inst d :: xs) Q)
    (hn : fnName k = name := by kernel_rfl!) (hk : k ∈ [100, 101, 102, 103] := by decide) (hs : noStar args = true := by kernel_rfl!) : MethV c A env pos name args (.inst d) cs Q := by
  intro W F s v M r pl
  obtain ⟨x, es, n, rfl, hd, rs, I⟩ := instAt M r a
  obtain ⟨m1, m2⟩ := c.kmeth k hk
  rw [hn] at m1
  refine PySem.W.method_fn (kIn M) I c.kga c.kgb m1 m2 (by show (PySem.W.lookIn name (dictObj es n)).map (·.isSome) = _; rw [lookIn_no rs hno]; rfl) ?_
  obtain ⟨o, fd, ho, hdat⟩ := methAt (c := c) hk
  refine callWith_function (o := o) (fd := fd) (evalArgsG hs h M fun vs s1 ⟨W1, xs, cs1, l1, r1, M1, q⟩ => ⟨⟨M1.hw _ _ (M1.base _ _ ho), hdat⟩, ?_⟩)
  exact wpNoE (q W1 F s1 (.ref x :: vs) M1 (.cons _ _ _ _ (RV.mono l1 r) r1)) fun r s2 h => h.back l1

/-- a call by its code -/
noncomputable def CalC (c : Cx) (A : Around) (cs : Cs) (k : Nat) (xs : List V) (Q : V → Cs → Prop) : Prop :=
  ∀ W F s vs, MdlC c W F cs s → RL c W vs xs → codeAny (model c.prog c.w) A (.call (.ref (c.ad k)) ⟨vs, []⟩) (fun r s' => match r with | .ok (.ret v) => Post c W F (RV c) Q v s' | .ok _ => False | .error e => NoE e s') s
theorem CalC.cal {k : Nat} {xs : List V} (h : CalC c A cs k xs Q) : Cal c A cs k xs Q := fun W F s vs M r => wpAny_call (h W F s vs M r)

/-- a def with defaults, all of which are taken -/
theorem Cal_ofM {k : Nat} {ps others : List Str} {args : List V} {pass rest : Cs} {n m : Nat} (dfl : List V) (hdfl : dfl = if k = 100 then [.int 0, .int (-1)] else [.int 0]) (ok : Ok A n) (hm : m + 1 ≤ n)
    (hb : ∀ pm code doc L a, Ok (A.deeper (envK k pm code doc L a)) m → GS c (A.deeper (envK k pm code doc L a)) ((L, .frame (frame0 ps others (args ++ dfl))) :: pass) (execs (fnBody k) (envK k pm code doc L a)) (Out L rest Q))
    (hbind : ∀ pm code doc T (vs items : List Value), vs.length = args.length → items.length = dfl.length →
      ∃ k', bindArgs { fdK k pm code doc with defaults := .ref T } ⟨vs, []⟩ = seqItems? (.ref T) >>= k' ∧ k' (some items.toArray) = pure (ps.zip (vs ++ items)))
    (hlen : ps.length = (args ++ dfl).length := by kernel_rfl!) (hnd : (ps ++ others).Nodup := by decide +kernel)
    (hloc : ∀ x ∈ ps, (fnScope k).names.lookup x = some .local := by decide +kernel) (hcell : ∀ x ∈ (fnScope k).names, x.2 ≠ .cell := by decide +kernel)
    (hk : k ∈ [100, 102] := by decide) (h1 : (fnScope k).isCoroutine = false := by decide +kernel) (h2 : (fnScope k).isGenerator = false := by decide +kernel) (h3 : (fnScope k).kind = .function := by decide +kernel) :
    CalC c A (pass ++ rest) k args Q := by
  intro W F s vs M r
  obtain ⟨o, pm, code, doc, T, items, nT, ho, hd, hcr, hT, rT⟩ := c.mfns k hk
  rw [← hdfl] at rT
  obtain ⟨F', up, M1, back⟩ := lendAll rest pass F M
  have rT' : RL c W items dfl := RelL.mono c.w c.ad M.base rT
  have rA : RL c W (vs ++ items) (args ++ dfl) := RL.app r rT'
  obtain ⟨k', b1, b2⟩ := hbind pm code doc T vs items (RL.len r) (RL.len rT')
  refine codeAny_call_def (fd := { fdK k pm code doc with defaults := .ref T }) (binds := ps.zip (vs ++ items)) ok.room (M.hw _ _ (M.base _ _ ho)) hd (c.nolimit.keeps fun b o e => M.hw _ _ (M.base _ _ e))
    (hcr.keeps fun b o e => M.hw _ _ (M.base _ _ e)) rfl (.of_defaults rfl (M.hw _ _ (M.base _ _ hT)) rfl b1 b2) hcell (fun x hx => hloc _ (List.of_mem_zip hx).1) (fun h₀ hns keep => ?_) h1 h2 h3
  have fr := M1.fresh
  have M2 : MdlC c W F' ((s.heap.objs.size, .frame (frame0 ps others (args ++ dfl))) :: pass) { s with heap := h₀, toks := s.toks + (ps.zip (vs ++ items)).length } := by
    have Ms := M1.step fr.1 fr.2.1 fr.2.2 (fun b o _ e => keep b o e) (s.toks + (ps.zip (vs ++ items)).length)
    obtain ⟨oL, es, ep, hoL, hdL, hkL, hfL⟩ := hns
    refine ⟨Ms.rest, Ms.hw, Ms.hf, Ms.base, Ms.wf, fun p hp => ?_, ?_⟩
    · rcases List.mem_cons.mp hp with rfl | hp
      · refine ⟨oL, hoL, .frame oL es ep _ hdL hkL ?_ ?_, fr.1, fr.2.1⟩
        · rw [frame0_names hlen]; exact hnd
        · intro x v hx
          obtain ⟨u, hu, ru⟩ := lookup_rev (List.nodup_append.mp hnd).1 rA (frame0_mem hx)
          exact ⟨u, by rw [hfL]; exact hu, ru⟩
      · exact Ms.own p hp
    · rw [List.map_cons, List.nodup_cons]
      refine ⟨fun hm => ?_, Ms.nodup⟩
      obtain ⟨p, hp, e⟩ := List.mem_map.mp hm
      exact fr.2.2 p hp e
  refine wpNoE (hb pm code doc s.heap.objs.size (c.ad k) (ok.deeper hm _) W F' _ M2) fun f s1 h => ?_
  obtain ⟨W1, z, cs1, l1, r1, M3, q⟩ := h
  exact Out_fin q l1 r1 M3 back (fun f => match f with | .ret v => v | _ => .none) (fun _ => rfl) rfl

/-- an own class called: a new thing -/
theorem CallV_cls {pos : Pos} {args : List Expr}
    (h : ArgsG c A env args cs fun xs cs2 => ∀ A' d, (∀ n m, m + 1 ≤ n → Ok A n → Ok A' m) → CalC c A' ((d, .sd []) :: cs2) 100 (.inst d :: xs) fun v cs3 => v = .none ∧ Q (.inst d) cs3)
    (hs : noStar args = true := by kernel_rfl!) : CallV c A env pos args (.fn 7) cs Q := by
  intro W F s v M r
  cases r using Rel.fnE with
  | fn _ a e =>
    subst e
    refine PySem.W.callWith_of (P := fun h => c.K.In h) (by rw [plain_any hs]; rfl) (PySem.W.keeps_K c.kkeep) (evalArgsG hs h M fun vs s1 ⟨W1, xs, cs1, l1, r1, M1, q⟩ => ⟨kIn M1, ?_⟩)
    obtain ⟨m1, m2⟩ := c.kmeth 100 (by decide)
    have hn : fnName 100 = "__init__" := by kernel_rfl!
    rw [hn] at m1
    obtain ⟨hh, g, dr, t, os⟩ := s1
    refine wpAny_call (PySem.W.make_core (PySem.W.makes_of (kIn M1) c.kmakes) (PySem.W.looks_findIn (kIn M1) m1) (fun self => PySem.W.bind_fn (kIn M1) self m2) (.inl rfl) ?_)
    have M2 := M1.pushC (dictObj [] 0) (x := .sd []) (.sd [] 0 [] .nil)
    obtain ⟨M3, l3⟩ := M2.pushW (curObj (c.ad 7) hh.objs.size)
    have fr := M2.fresh
    have hsz : (hh.push (dictObj [] 0)).objs.size = hh.objs.size + 1 := Heap.size_push _ _
    have rx : RV c (W1.put (hh.push (dictObj [] 0)).objs.size (curObj (c.ad 7) hh.objs.size)) (.ref (hh.objs.size + 1)) (.inst hh.objs.size) := .inst _ _ (by unfold Wd.put; rw [if_pos hsz.symm])
    refine codeAny_mono (q _ hh.objs.size ?_ _ F _ _ M3 (.cons _ _ _ _ rx (RL.mono l3 r1))) fun r s' hr => ?_
    · intro n m hm hok
      exact ⟨hok.handled, by have := hok.depth; show A.depth + 1 + m < 900; lia, by have := hok.units; show A.units + 1 + 20 * m < 9000; lia⟩
    · rcases r with e | (v | _ | _ | _) <;> first | exact hr | exact hr.elim | skip
      obtain ⟨W2, z, cs2, l2, rz, M4, hz, q2⟩ := hr
      subst hz
      (first | cases rz using Rel.intE | cases rz using Rel.refE | cases rz using RelL.nilE | cases rz using Rel.strE | cases rz using Rel.bytesE | cases rz using Rel.noneE | cases rz using Rel.boolE | cases rz using Rel.listE | cases rz using Rel.tupE | cases rz using Rel.sdE | cases rz using Rel.iddE | cases rz using Rel.biE | cases rz using Rel.tyE | cases rz using Rel.rngE | cases rz)
      exact ⟨rfl, W2, .inst hh.objs.size, cs2, l1.trans (l3.trans l2), RV.mono l2 rx, M4, q2⟩
end
end U

/-! ## U21 -/
namespace U
open PySem PyProof.Rows PySem.Calls

/-- cs holds o at d, the rest is r, with o' there it is cs3 -/
inductive Tup (d : Addr) (o o' : O) : Cs → Cs → Cs → Prop
  | head (r : Cs) : Tup d o o' ((d, o) :: r) r ((d, o') :: r)
  | tail (p : Addr × O) {cs r cs3 : Cs} (h : Tup d o o' cs r cs3) : Tup d o o' (p :: cs) (p :: r) (p :: cs3)
theorem Tup.p1 {d : Addr} {o o' : O} {cs r cs3 : Cs} (t : Tup d o o' cs r cs3) : cs.Perm ((d, o) :: r) := by
  induction t with
  | head r => exact List.Perm.refl _
  | tail p _ ih => exact (ih.cons p).trans (List.Perm.swap _ _ _)
theorem Tup.p2 {d : Addr} {o o' : O} {cs r cs3 : Cs} (t : Tup d o o' cs r cs3) : ((d, o') :: r).Perm cs3 := by
  induction t with
  | head r => exact List.Perm.refl _
  | tail p _ ih => exact (List.Perm.swap _ _ _).trans (ih.cons p)
abbrev kData : List Nat := (Str.ofString "data").cps.toList
abbrev kAt : List Nat := (Str.ofString "at").cps.toList
abbrev kEnd : List Nat := (Str.ofString "end").cps.toList
/-- a cursor's fields -/
abbrev cur (x : List Nat) (i e : Int) : O := .sd [((Str.ofString "data").cps.toList, .bytes x), ((Str.ofString "at").cps.toList, .int i), ((Str.ofString "end").cps.toList, .int e)]
theorem ne_at_data : kData ≠ kAt := by decide +kernel
theorem ne_at_end : kEnd ≠ kAt := by decide +kernel
theorem ne_data_end : kData ≠ kEnd := by decide +kernel

section
variable {c : Cx} {A : Around} {cs cs3 r : Cs} {env : Env} {d : Addr} {x : List Nat} {i e j : Int} {Q : V → Cs → Prop} {QU : Unit → Cs → Prop}

theorem Cal_tup {k : Nat} {xs : List V} {o o' : O} (t : Tup d o o' cs r cs3) (h : Cal c A ((d, o) :: r) k xs fun v cs2 => cs2 = (d, o') :: r ∧ Q v cs3) : Cal c A cs k xs Q :=
  fun W F s vs M rl => go (h W F s vs (M.perm t.p1) rl) fun v s1 W1 z cs2 l1 r1 M1 ⟨e, q⟩ => ⟨W1, z, cs3, l1, r1, by subst e; exact M1.perm t.p2, q⟩

theorem EA_data {P : V → Prop} (a : At d (cur x i e) cs) (q : P (.bytes x)) :
    ∃ d' l' v', V.inst d = .inst d' ∧ At d' (.sd l') cs ∧ SAt (Str.ofString "data").cps.toList v' l' ∧ (∀ id, v' ≠ .bi id) ∧ P v' := ⟨d, _, _, rfl, a, .head _, fun _ e => (by cases e), q⟩
theorem EA_at {P : V → Prop} (a : At d (cur x i e) cs) (q : P (.int i)) :
    ∃ d' l' v', V.inst d = .inst d' ∧ At d' (.sd l') cs ∧ SAt (Str.ofString "at").cps.toList v' l' ∧ (∀ id, v' ≠ .bi id) ∧ P v' := ⟨d, _, _, rfl, a, .tail _ ne_at_data (.head _), fun _ e => (by cases e), q⟩
theorem EA_end {P : V → Prop} (a : At d (cur x i e) cs) (q : P (.int e)) :
    ∃ d' l' v', V.inst d = .inst d' ∧ At d' (.sd l') cs ∧ SAt (Str.ofString "end").cps.toList v' l' ∧ (∀ id, v' ≠ .bi id) ∧ P v' := ⟨d, _, _, rfl, a, .tail _ ne_data_end (.tail _ ne_at_end.symm (.head _)), fun _ e => (by cases e), q⟩
theorem SA_at (u : Upd d (cur x i e) (cur x j e) cs cs3) (q : QU () cs3) : Op2 c A cs (fun a b => setAttr a (Str.ofString "at") b) (.inst d) (.int j) RU QU :=
  SA_inst (l := [((Str.ofString "data").cps.toList, .bytes x), ((Str.ofString "at").cps.toList, .int i), ((Str.ofString "end").cps.toList, .int e)])
    (by unfold putS; rw [if_neg ne_at_data]; unfold putS; rw [if_pos rfl]; exact u) (by simp) q

theorem Meth_peek {pos : Pos} (a : At d (cur x i e) cs) (h : Cal c A cs 102 [.inst d] Q) : MethV c A env pos (Str.ofString "peek") [] (.inst d) cs Q :=
  MethV_inst 102 a (by show _ ∉ [kData, kAt, kEnd]; decide +kernel) h
theorem Meth_take {pos : Pos} (a : At d (cur x i e) cs) (h : Cal c A cs 103 [.inst d] Q) : MethV c A env pos (Str.ofString "take") [] (.inst d) cs Q :=
  MethV_inst 103 a (by show _ ∉ [kData, kAt, kEnd]; decide +kernel) h
theorem Meth_done {pos : Pos} (a : At d (cur x i e) cs) (h : Cal c A cs 101 [.inst d] Q) : MethV c A env pos (Str.ofString "is_done") [] (.inst d) cs Q :=
  MethV_inst 101 a (by show _ ∉ [kData, kAt, kEnd]; decide +kernel) h

theorem Take.sub {a : Addr} {o : O} {cs cs' : Cs} (h : Take a o cs cs') : [(a, o)].Sublist cs := by
  induction h with
  | head r => exact .cons_cons _ (List.nil_sublist _)
  | tail p _ ih => exact .cons _ ih
theorem Out_keep {L : Addr} {rest cs' cs2 : Cs} {v : V} (t : Take d (cur x i e) cs' cs2) (q : Q v ((d, cur x i e) :: rest)) : Out L rest Q (.ret v) cs' := .inl ⟨[(d, _)], t.sub, q⟩
theorem Out_keepN {L : Addr} {rest cs' cs2 : Cs} (t : Take d (cur x i e) cs' cs2) (q : Q .none ((d, cur x i e) :: rest)) : Out L rest Q .next cs' := ⟨[(d, _)], t.sub, q⟩
theorem Out_keepF {L a : Addr} {l : List V} {rest cs' cs2 cs4 : Cs} (t1 : Take a (.list l) cs' cs2) (t : Take d (cur x i e) cs2 cs4) (q : Q (.list l) ((d, cur x i e) :: rest)) : Out L rest Q (.ret (.ref a)) cs' :=
  .inr ⟨a, l, cs2, [(d, _)], rfl, t1, t.sub, q⟩
end

theorem lenC {P : List Value → Prop} {m : Nat} {vs : List Value} (h : vs.length = m + 1) (k : ∀ a r, r.length = m → P (a :: r)) : P vs := by
  cases vs with
  | nil => cases h
  | cons a r => exact k a r (Nat.succ.inj h)
@[elab_as_elim] theorem len1 {P : List Value → Prop} {vs : List Value} (h : vs.length = 1) (k : ∀ a, P [a]) : P vs :=
  lenC (P := P) h fun a r e => List.eq_nil_of_length_eq_zero e ▸ k a
@[elab_as_elim] theorem len2 {P : List Value → Prop} {vs : List Value} (h : vs.length = 2) (k : ∀ a b, P [a, b]) : P vs :=
  lenC (P := P) h fun a r e => len1 (P := fun r => P (a :: r)) e (k a)
@[elab_as_elim] theorem len3 {P : List Value → Prop} {vs : List Value} (h : vs.length = 3) (k : ∀ a b d, P [a, b, d]) : P vs :=
  lenC (P := P) h fun a r e => len2 (P := fun r => P (a :: r)) e (k a)
@[elab_as_elim] theorem len4 {P : List Value → Prop} {vs : List Value} (h : vs.length = 4) (k : ∀ a b d e, P [a, b, d, e]) : P vs :=
  lenC (P := P) h fun a r e => len3 (P := fun r => P (a :: r)) e (k a)
theorem fz1 {α β : Type} (a : α) (b : β) (l : List α) (m : List β) : List.zip (a :: l) (b :: m) = (a, b) :: List.zip l m := rfl
theorem fz2 {α β : Type} (m : List β) : List.zip ([] : List α) m = [] := rfl
theorem fm1 {α β : Type} (f : α → β) (a : α) (l : List α) : List.map f (a :: l) = f a :: List.map f l := rfl
theorem fm2 {α β : Type} (f : α → β) : List.map f [] = [] := rfl
theorem fa1 {α : Type} (a : α) (l m : List α) : (a :: l) ++ m = a :: (l ++ m) := rfl
theorem fa2 {α : Type} (m : List α) : [] ++ m = m := rfl

/-! ### the rules once more: what is to come is named (so that a proof bears it once, not unfolded at every step), and what stays the same stands first -/
section
variable {c : Cx} {A : Around} {env : Env}

abbrev KBin2 (c : Cx) (A : Around) (op : Operator) (x : V) (Q : V → Cs → Prop) (y : V) (cs2 : Cs) : Prop := Op2 c A cs2 (binaryOp op) x y (RV c) Q
abbrev KBin (c : Cx) (A : Around) (env : Env) (op : Operator) (r : Expr) (Q : V → Cs → Prop) (x : V) (cs1 : Cs) : Prop := GE c A cs1 (eval r env) (KBin2 c A op x Q)
theorem K_BinOp {l r : Expr} {op : Operator} {pos : Pos} {cs : Cs} {Q : V → Cs → Prop} (h : GE c A cs (eval l env) (KBin c A env op r Q)) : GE c A cs (eval (.BinOp l op r pos) env) Q := E_BinOp h

abbrev KUn (c : Cx) (A : Around) (op : UnaryOp) (Q : V → Cs → Prop) (x : V) (cs1 : Cs) : Prop := Op1 c A cs1 (unaryOp op) x (RV c) Q
theorem K_UnaryOp {e : Expr} {op : UnaryOp} {pos : Pos} {cs : Cs} {Q : V → Cs → Prop} (h : GE c A cs (eval e env) (KUn c A op Q)) : GE c A cs (eval (.UnaryOp op e pos) env) Q := E_UnaryOp h

abbrev KIfE (c : Cx) (A : Around) (env : Env) (b o : Expr) (Q : V → Cs → Prop) (z : Bool) (cs1 : Cs) : Prop := Ite z (GE c A cs1 (eval b env) Q) (GE c A cs1 (eval o env) Q)
theorem K_IfExp {t b o : Expr} {pos : Pos} {cs : Cs} {Q : V → Cs → Prop} (h : GB c A cs (isTrue t env (eval t env)) (KIfE c A env b o Q)) : GE c A cs (eval (.IfExp t b o pos) env) Q := E_IfExp h

abbrev KBl (Q : V → Cs → Prop) (b : Bool) (cs3 : Cs) : Prop := Q (.bool b) cs3
abbrev KCp2 (c : Cx) (A : Around) (op : CmpOp) (x : V) (Q : Bool → Cs → Prop) (y : V) (cs2 : Cs) : Prop := Cmp c A cs2 op x y Q
abbrev KCp (c : Cx) (A : Around) (env : Env) (op : CmpOp) (r : Expr) (Q : Bool → Cs → Prop) (x : V) (cs1 : Cs) : Prop := GE c A cs1 (eval r env) (KCp2 c A op x Q)
theorem K_Cmp1 {l r : Expr} {op : CmpOp} {pos : Pos} {cs : Cs} {Q : V → Cs → Prop} (h : GE c A cs (eval l env) (KCp c A env op r (KBl Q))) (hm : behindInMarks op r = false := by kernel_rfl!) : GE c A cs (eval (.Compare l [op] [r] pos) env) Q := E_Cmp1 h hm
theorem KB_Cmp1 {l r : Expr} {op : CmpOp} {pos : Pos} {whole : Sem Value} {cs : Cs} {Q : Bool → Cs → Prop} (h : GE c A cs (eval l env) (KCp c A env op r Q)) (hm : behindInMarks op r = false := by kernel_rfl!) : GB c A cs (isTrue (.Compare l [op] [r] pos) env whole) Q := B_Cmp1 h hm

abbrev KNot (Q : Bool → Cs → Prop) (b : Bool) (cs1 : Cs) : Prop := Q (!b) cs1
theorem KB_Not {e : Expr} {pos : Pos} {whole : Sem Value} {cs : Cs} {Q : Bool → Cs → Prop} (h : GB c A cs (isTrue e env (eval e env)) (KNot Q)) : GB c A cs (isTrue (.UnaryOp .Not e pos) env whole) Q := B_Not h
abbrev KAn (c : Cx) (A : Around) (env : Env) (rest : List Expr) (pos : Pos) (whole : Sem Value) (Q : Bool → Cs → Prop) (b : Bool) (cs1 : Cs) : Prop := Ite b (GB c A cs1 (isTrue (.BoolOp .And rest pos) env whole) Q) (Q false cs1)
theorem KB_And {e : Expr} {rest : List Expr} {pos : Pos} {whole : Sem Value} {cs : Cs} {Q : Bool → Cs → Prop} (h : GB c A cs (isTrue e env (eval e env)) (KAn c A env rest pos whole Q)) : GB c A cs (isTrue (.BoolOp .And (e :: rest) pos) env whole) Q := B_And h
abbrev KOr (c : Cx) (A : Around) (env : Env) (rest : List Expr) (pos : Pos) (whole : Sem Value) (Q : Bool → Cs → Prop) (b : Bool) (cs1 : Cs) : Prop := Ite b (Q true cs1) (GB c A cs1 (isTrue (.BoolOp .Or rest pos) env whole) Q)
theorem KB_Or {e : Expr} {rest : List Expr} {pos : Pos} {whole : Sem Value} {cs : Cs} {Q : Bool → Cs → Prop} (h : GB c A cs (isTrue e env (eval e env)) (KOr c A env rest pos whole Q)) : GB c A cs (isTrue (.BoolOp .Or (e :: rest) pos) env whole) Q := B_Or h
abbrev KTru (c : Cx) (A : Around) (Q : Bool → Cs → Prop) (x : V) (cs1 : Cs) : Prop := Tru c A cs1 x Q
theorem KB_val {e : Expr} {cs : Cs} {Q : Bool → Cs → Prop} (h : GE c A cs (eval e env) (KTru c A Q)) (he : isTrue e env (eval e env) = (do let v ← eval e env; standAt e.pos; holding [v] (truthy v)) := by with_unfolding_all rfl) : GB c A cs (isTrue e env (eval e env)) Q := B_val h he

abbrev KSeq (c : Cx) (A : Around) (env : Env) (rest : List Stmt) (Q : VF → Cs → Prop) (f : VF) (cs1 : Cs) : Prop := match f with
  | .next => GS c A cs1 (execs rest env) Q
  | f => Q f cs1
theorem K_cons {st : Stmt} {rest : List Stmt} {cs : Cs} {Q : VF → Cs → Prop} (h : GS c A cs (exec st env) (KSeq c A env rest Q)) : GS c A cs (execs (st :: rest) env) Q := S_cons (G.mono h fun z cs' k => by cases z <;> exact k)
abbrev KRet (Q : VF → Cs → Prop) (x : V) (cs1 : Cs) : Prop := Q (.ret x) cs1
theorem K_Return {e : Expr} {pos : Pos} {cs : Cs} {Q : VF → Cs → Prop} (h : GE c A cs (eval e env) (KRet Q)) : GS c A cs (exec (.Return (some e) pos) env) Q := S_Return h
abbrev KIfS (c : Cx) (A : Around) (env : Env) (b o : List Stmt) (Q : VF → Cs → Prop) (z : Bool) (cs1 : Cs) : Prop := Ite z (GS c A cs1 (execs b env) Q) (GS c A cs1 (execs o env) Q)
theorem K_If {t : Expr} {b o : List Stmt} {pos : Pos} {cs : Cs} {Q : VF → Cs → Prop} (h : GB c A cs (isTrue t env (eval t env)) (KIfS c A env b o Q)) : GS c A cs (exec (.If t b o pos) env) Q := S_If h
abbrev KEx (Q : VF → Cs → Prop) (_ : V) (cs1 : Cs) : Prop := Q .next cs1
theorem K_Expr {e : Expr} {pos : Pos} {cs : Cs} {Q : VF → Cs → Prop} (h : GE c A cs (eval e env) (KEx Q)) (hi : interactive env = false := by kernel_rfl!) (hs : swapsWith e none pos.line env = pure false := by with_unfolding_all rfl) : GS c A cs (exec (.Expr e pos) env) Q := S_Expr h hi hs
abbrev KDo (Q : VF → Cs → Prop) (_ : Unit) (cs1 : Cs) : Prop := Q .next cs1

abbrev KAs (L : Addr) (x : Str) (Q : VF → Cs → Prop) (v : V) (cs1 : Cs) : Prop := ∃ loc loc' cs2, Upd L (.frame loc) (.frame loc') cs1 cs2 ∧ LocPut x v loc loc' ∧ Q .next cs2
theorem K_AsK {k : Nat} {pm code doc : Value} {L a : Addr} {n : Str} {e : Expr} {pos' pos : Pos} {cs : Cs} {Q : VF → Cs → Prop} (h : GE c A cs (eval e (envK k pm code doc L a)) (KAs L n Q))
    (hx : (envK k pm code doc L a).kindOf n = some .local := by kernel_rfl!) (hk : (envK k pm code doc L a).scope.kind = .function := by kernel_rfl!)
    (hs : swapsWith e (some (.Name n pos')) pos.line (envK k pm code doc L a) = pure false := by with_unfolding_all rfl) : GS c A cs (exec (.Assign [.Name n pos'] e pos) (envK k pm code doc L a)) Q := S_AsK h hx hk hs
theorem K_AsKC {k : Nat} {pm code doc : Value} {L a : Addr} {n : Str} {e : Expr} {pos' pos : Pos} {cs : Cs} {Q : VF → Cs → Prop} (h : GE c A cs (eval e (envKC k pm code doc L a)) (KAs L n Q))
    (hx : (envKC k pm code doc L a).kindOf n = some .local := by kernel_rfl!) (hk : (envKC k pm code doc L a).scope.kind = .function := by kernel_rfl!)
    (hs : swapsWith e (some (.Name n pos')) pos.line (envKC k pm code doc L a) = pure false := by with_unfolding_all rfl) : GS c A cs (exec (.Assign [.Name n pos'] e pos) (envKC k pm code doc L a)) Q := S_AsKC h hx hk hs

abbrev KAb3 (c : Cx) (A : Around) (v ov : V) (Q : VF → Cs → Prop) (iv : V) (cs3 : Cs) : Prop := Op3 c A cs3 setItem ov iv v RU (KDo Q)
abbrev KAb2 (c : Cx) (A : Around) (env : Env) (i : Expr) (v : V) (Q : VF → Cs → Prop) (ov : V) (cs2 : Cs) : Prop := GE c A cs2 (eval i env) (KAb3 c A v ov Q)
abbrev KAb (c : Cx) (A : Around) (env : Env) (o i : Expr) (Q : VF → Cs → Prop) (v : V) (cs1 : Cs) : Prop := GE c A cs1 (eval o env) (KAb2 c A env i v Q)
theorem K_AssignSub {o i e : Expr} {pos' pos : Pos} {cs : Cs} {Q : VF → Cs → Prop} (h : GE c A cs (eval e env) (KAb c A env o i Q)) (hs : swapsWith e (some (.Subscript o i pos')) pos.line env = pure false := by with_unfolding_all rfl) :
    GS c A cs (exec (.Assign [.Subscript o i pos'] e pos) env) Q := S_AssignSub h hs
abbrev KAa2 (c : Cx) (A : Around) (attr : Str) (v : V) (Q : VF → Cs → Prop) (ov : V) (cs2 : Cs) : Prop := Op2 c A cs2 (fun a b => setAttr a attr b) ov v RU (KDo Q)
abbrev KAa (c : Cx) (A : Around) (env : Env) (o : Expr) (attr : Str) (Q : VF → Cs → Prop) (v : V) (cs1 : Cs) : Prop := GE c A cs1 (eval o env) (KAa2 c A attr v Q)
theorem K_AssignAttr {o e : Expr} {attr : Str} {pos' pos : Pos} {cs : Cs} {Q : VF → Cs → Prop} (h : GE c A cs (eval e env) (KAa c A env o attr Q)) (hs : swapsWith e (some (.Attribute o attr pos')) pos.line env = pure false := by with_unfolding_all rfl) :
    GS c A cs (exec (.Assign [.Attribute o attr pos'] e pos) env) Q := S_AssignAttr h hs
abbrev KAt (c : Cx) (A : Around) (env : Env) (t : Expr) (Q : VF → Cs → Prop) (v : V) (cs1 : Cs) : Prop := Asg c A cs1 t env v (KDo Q)
theorem K_AssignTup {elts : List Expr} {k : Nat} {tpos pos : Pos} {e : Expr} {cs : Cs} {Q : VF → Cs → Prop} (h : GE c A cs (eval e env) (KAt c A env (.Tuple elts k tpos) Q)) (hs : swapsWithSole [.Tuple elts k tpos] e pos.line env = pure false := by with_unfolding_all rfl)
    (hw : swappedStores [.Tuple elts k tpos] e env = pure none := by with_unfolding_all rfl) : GS c A cs (exec (.Assign [.Tuple elts k tpos] e pos) env) Q := S_AssignTup h hs hw
abbrev KAg (c : Cx) (A : Around) (env : Env) (ts : List Expr) (xs : List V) (Q : Unit → Cs → Prop) (_ : Unit) (cs1 : Cs) : Prop := Asgs c A env ts xs cs1 Q
theorem K_Asgs {t : Expr} {ts : List Expr} {x : V} {xs : List V} {cs : Cs} {Q : Unit → Cs → Prop} (h : Asg c A cs t env x (KAg c A env ts xs Q)) : Asgs c A env (t :: ts) (x :: xs) cs Q := h

abbrev KCall (c : Cx) (A : Around) (env : Env) (pos : Pos) (args : List Expr) (Q : V → Cs → Prop) (fv : V) (cs1 : Cs) : Prop := CallV c A env pos args fv cs1 Q
theorem K_Call {fe : Expr} {args : List Expr} {pos : Pos} {cs : Cs} {Q : V → Cs → Prop} (h : GE c A cs (eval fe env) (KCall c A env pos args Q))
    (he : eval (.Call fe args [] pos) env = (do callWith pos (← eval fe env) [] (backTo pos (starEach args env)) (backToKw pos (keywordEach [] env))) := by with_unfolding_all rfl) : GE c A cs (eval (.Call fe args [] pos) env) Q := E_Call h he
abbrev KMeth (c : Cx) (A : Around) (env : Env) (pos : Pos) (name : Str) (args : List Expr) (Q : V → Cs → Prop) (ov : V) (cs1 : Cs) : Prop := MethV c A env pos name args ov cs1 Q
theorem K_Meth {o : Expr} {name : Str} {apos pos : Pos} {args : List Expr} {cs : Cs} {Q : V → Cs → Prop} (h : GE c A cs (eval o env) (KMeth c A env pos name args Q))
    (hbase : attributeBase o name env (eval o env) = eval o env := by with_unfolding_all rfl) (hline : (apos.endLine == pos.line) = true := by kernel_rfl!) (hs : noStar args = true := by kernel_rfl!) (hn : args.length < 30 := by decide) :
    GE c A cs (eval (.Call (.Attribute o name apos) args [] pos) env) Q := E_Meth h hbase hline hs hn
abbrev KAcc (x : V) (Q : List V → Cs → Prop) (xs : List V) (cs2 : Cs) : Prop := Q (x :: xs) cs2
abbrev KArg (c : Cx) (A : Around) (env : Env) (r : List Expr) (Q : List V → Cs → Prop) (x : V) (cs1 : Cs) : Prop := ArgsG c A env r cs1 (KAcc x Q)
theorem K_arg {e : Expr} {r : List Expr} {cs : Cs} {Q : List V → Cs → Prop} (h : GE c A cs (eval e env) (KArg c A env r Q)) : ArgsG c A env (e :: r) cs Q := h
abbrev KCal (c : Cx) (A : Around) (k : Nat) (Q : V → Cs → Prop) (xs : List V) (cs2 : Cs) : Prop := Cal c A cs2 k xs Q
abbrev KBi (c : Cx) (A : Around) (id : String) (Q : V → Cs → Prop) (xs : List V) (cs2 : Cs) : Prop := Bi c A cs2 id xs Q
abbrev KTy (c : Cx) (A : Around) (n : String) (Q : V → Cs → Prop) (xs : List V) (cs2 : Cs) : Prop := Ty c A cs2 n xs Q
theorem K_fn {args : List Expr} {k : Nat} {pos : Pos} {cs : Cs} {Q : V → Cs → Prop} (h : ArgsG c A env args cs (KCal c A k Q)) (hk : k ∈ fnIx := by decide) (hs : noStar args = true := by kernel_rfl!) : CallV c A env pos args (.fn k) cs Q := CallV_fn h hk hs
theorem K_bi {args : List Expr} {id : String} {pos : Pos} {cs : Cs} {Q : V → Cs → Prop} (h : ArgsG c A env args cs (KBi c A id Q)) (hs : noStar args = true := by kernel_rfl!) : CallV c A env pos args (.bi id) cs Q := CallV_bi h hs
theorem K_ty {args : List Expr} {n : String} {pos : Pos} {cs : Cs} {Q : V → Cs → Prop} (h : ArgsG c A env args cs (KTy c A n Q)) (hs : noStar args = true := by kernel_rfl!) : CallV c A env pos args (.ty n) cs Q := CallV_ty h hs

abbrev KAtt (attr : Str) (Q : V → Cs → Prop) (ov : V) (cs1 : Cs) : Prop := ∃ d l v, ov = .inst d ∧ At d (.sd l) cs1 ∧ SAt attr.cps.toList v l ∧ (∀ id, v ≠ .bi id) ∧ Q v cs1
theorem K_Attr {o : Expr} {attr : Str} {pos : Pos} {cs : Cs} {Q : V → Cs → Prop} (h : GE c A cs (eval o env) (KAtt attr Q)) (ha : attr ∈ [Str.ofString "data", Str.ofString "at", Str.ofString "end"] := by decide +kernel)
    (he : eval (.Attribute o attr pos) env = (do
      let o' ← eval o env
      standAt pos.atName
      let r ← holding [o'] (getAttr o' attr true)
      letTemporaryGo o o' r
      pure r) := by with_unfolding_all rfl) : GE c A cs (eval (.Attribute o attr pos) env) Q := E_Attr h ha he

abbrev KSub2 (c : Cx) (A : Around) (value slice : Expr) (x : V) (Q : V → Cs → Prop) (y : V) (cs2 : Cs) : Prop := Sub c A cs2 value slice x y Q
abbrev KSub (c : Cx) (A : Around) (env : Env) (value slice : Expr) (Q : V → Cs → Prop) (x : V) (cs1 : Cs) : Prop := GE c A cs1 (eval slice env) (KSub2 c A value slice x Q)
theorem K_Sub {value slice : Expr} {pos : Pos} {cs : Cs} {Q : V → Cs → Prop} (h : GE c A cs (eval value env) (KSub c A env value slice Q)) : GE c A cs (eval (.Subscript value slice pos) env) Q := E_Sub h
abbrev KCut3 (c : Cx) (A : Around) (value slice : Expr) (x : V) (l : Option Int) (Q : V → Cs → Prop) (u : Option Int) (cs3 : Cs) : Prop := Cut c A cs3 value slice x l u Q
abbrev KCut2 (c : Cx) (A : Around) (env : Env) (value slice : Expr) (hi : Option Expr) (x : V) (Q : V → Cs → Prop) (l : Option Int) (cs2 : Cs) : Prop := PartG c A env hi cs2 (KCut3 c A value slice x l Q)
abbrev KCut (c : Cx) (A : Around) (env : Env) (value slice : Expr) (lo hi : Option Expr) (Q : V → Cs → Prop) (x : V) (cs1 : Cs) : Prop := PartG c A env lo cs1 (KCut2 c A env value slice hi x Q)
theorem K_Cut {value : Expr} {lo hi : Option Expr} {p pos : Pos} {cs : Cs} {Q : V → Cs → Prop} (h : GE c A cs (eval value env) (KCut c A env value (.Slice lo hi none p) lo hi Q)) : GE c A cs (eval (.Subscript value (.Slice lo hi none p) pos) env) Q := E_Cut h
abbrev KInt (K : Option Int → Cs → Prop) (v : V) (cs1 : Cs) : Prop := ∃ i, v = .int i ∧ K (some i) cs1
theorem K_part {e : Expr} {cs : Cs} {K : Option Int → Cs → Prop} (h : GE c A cs (eval e env) (KInt K)) : PartG c A env (some e) cs K := h
abbrev KLst (Q : V → Cs → Prop) (xs : List V) (cs1 : Cs) : Prop := xs.length ≤ 16777216 ∧ ∀ a, Q (.ref a) ((a, .list xs) :: cs1)
theorem K_List {elts : List Expr} {pos : Pos} {cs : Cs} {Q : V → Cs → Prop} (h : ArgsG c A env elts cs (KLst Q)) (hs : noStar elts = true := by kernel_rfl!) : GE c A cs (eval (.List elts pos) env) Q := E_List h hs
abbrev KTup (Q : V → Cs → Prop) (xs : List V) (cs1 : Cs) : Prop := xs.length ≤ 16777216 ∧ Q (.tup xs) cs1
theorem K_Tup {elts : List Expr} {k : Nat} {pos : Pos} {cs : Cs} {Q : V → Cs → Prop} (h : ArgsG c A env elts cs (KTup Q)) (hs : noStar elts = true := by kernel_rfl!) : GE c A cs (eval (.Tuple elts k pos) env) Q := E_Tup h hs

/-! ### names, what stays the same first -/
theorem K_lK {k : Nat} {pm code doc : Value} {L a : Addr} {x : Str} (hx : (envK k pm code doc L a).kindOf x = some .local := by kernel_rfl!) (hk : (envK k pm code doc L a).scope.kind = .function := by kernel_rfl!) (hd : (x == ("__debug__" : Str)) = false := by decide +kernel)
    {pos : Pos} {loc : List (Str × Option V)} {v : V} {cs : Cs} {Q : V → Cs → Prop} (h : At L (.frame loc) cs) (l : Loc x v loc) (q : Q v cs) : GE c A cs (eval (.Name x pos) (envK k pm code doc L a)) Q := E_local h l q hk hx hd
theorem K_lKC {k : Nat} {pm code doc : Value} {L a : Addr} {x : Str} (hx : (envKC k pm code doc L a).kindOf x = some .local := by kernel_rfl!) (hk : (envKC k pm code doc L a).scope.kind = .function := by kernel_rfl!) (hd : (x == ("__debug__" : Str)) = false := by decide +kernel)
    {pos : Pos} {loc : List (Str × Option V)} {v : V} {cs : Cs} {Q : V → Cs → Prop} (h : At L (.frame loc) cs) (l : Loc x v loc) (q : Q v cs) : GE c A cs (eval (.Name x pos) (envKC k pm code doc L a)) Q := E_local h l q hk hx hd
end
end U

/-! ## U22 -/
namespace U
open PySem PyProof.Rows PySem.Calls

section
variable {c : Cx} {A : Around} {cs : Cs} {env : Env} {Q : V → Cs → Prop} {QB : Bool → Cs → Prop}

/-! ### a dict display whose parts change nothing -/
noncomputable def KV (c : Cx) (A : Around) (env : Env) (cs : Cs) : List (Expr × Expr) → List (List Nat × V) → Prop
  | [], [] => True
  | (k, v) :: r, (x, y) :: l => GE c A cs (eval k env) (fun z cs' => z = .str x ∧ cs' = cs) ∧ GE c A cs (eval v env) (fun z cs' => z = y ∧ cs' = cs) ∧ KV c A env cs r l
  | _, _ => False

theorem pairsRun {pos : Pos} {l : List (List Nat × V)} : ∀ {es : List (Expr × Expr)}, KV c A env cs es l → ∀ W F s, MdlC c W F cs s →
    wpAny (model c.prog c.w) A (evalPairs (es.map fun p => (eval p.1 env, do let x ← eval p.2 env; standAt pos; pure x))) (fun vs s' => ∃ W' kvs, Le W W' ∧ Carries (strKind c.prog c.w) vs kvs ∧ RelKS c W' kvs l ∧ MdlC c W' F cs s') NoE s := by
  induction l with
  | nil =>
    intro es h W F s M
    cases es with
    | nil => exact evalPairs_nil ⟨W, [], Le.refl W, trivial, trivial, M⟩
    | cons p r => exact h.elim
  | cons q l ih =>
    intro es h W F s M
    obtain ⟨x, y⟩ := q
    cases es with
    | nil => exact h.elim
    | cons p r =>
      obtain ⟨k, v⟩ := p
      obtain ⟨h1, h2, h3⟩ := h
      refine evalPairs_cons (go (h1 W F s M) fun kv s1 W1 z cs1 l1 r1 M1 e => ?_)
      obtain ⟨e1, e2⟩ := e
      subst e1 e2
      refine wpAny_bind (go (h2 W1 F s1 M1) fun vv s2 W2 z2 cs2 l2 r2 M2 e => ?_)
      obtain ⟨e3, e4⟩ := e
      subst e3 e4
      refine wpAny_bind (wpAny_standAt (wpAny_pure ?_))
      refine wpAny_mono (ih h3 W2 F s2 M2) (fun vs s3 h => ?_) fun _ _ e => e
      obtain ⟨W3, kvs, l3, cr, rk, M3⟩ := h
      obtain ⟨t, rfl⟩ := inS M1 r1
      exact ⟨W3, (mkS x, vv) :: kvs, l1.trans (l2.trans l3), ⟨strKind_is _ _ _ _, rfl, cr⟩, ⟨rfl, RV.mono l3 r2, rk⟩, M3⟩

/-- a dict display, given as one that stays -/
theorem E_DictD {keys : List (Option Expr)} {values : List Expr} {pos : Pos} (es : List (Expr × Expr)) (l : List (List Nat × V))
    (hshape : (evalEachOpt keys env).zip ((evalEach values env).map fun v => do let x ← v; standAt pos; pure x) = (es.map fun p => (eval p.1 env, do let x ← eval p.2 env; standAt pos; pure x)).map fun p => (some p.1, p.2))
    (h0 : es ≠ []) (hlen : es.length ≤ 15) (hn : (l.map (·.1)).Nodup) (hkv : ∀ d, KV c A env ((d, .sd []) :: cs) es l) (q : Q (.sd l) cs) : GE c A cs (eval (.Dict keys values pos) env) Q := fun W F s M => by
  have M0 := M.pushC (dictObj [] 0) (x := .sd []) (.sd [] 0 [] .nil)
  refine wpAny_Dict_pairs (knd := strKind c.prog c.w) hshape (fun e => h0 (List.map_eq_nil_iff.mp e)) (by rw [List.length_map]; exact hlen) ?_
  refine wpAny_mono (pairsRun (hkv _) W F _ M0) (fun vs s3 h => ?_) fun _ _ e => e
  obtain ⟨W3, kvs, l3, cr, rk, M3⟩ := h
  have ne := freshMod M
  obtain ⟨o, ho, hr, hW, hF⟩ := M3.own _ List.mem_cons_self
  cases hr with
  | sd es0 n0 _ r0 =>
    refine ⟨kvs, cr, ?_, fun h' hd hs => ?_⟩
    · have := (r0.dictAt (by simp) ho).dictOf
      (first | cases r0 using Rel.intE | cases r0 using Rel.refE | cases r0 using RelL.nilE | cases r0 using Rel.strE | cases r0 using Rel.bytesE | cases r0 using Rel.noneE | cases r0 using Rel.boolE | cases r0 using Rel.listE | cases r0 using Rel.tupE | cases r0 using Rel.sdE | cases r0 using Rel.iddE | cases r0 using Rel.biE | cases r0 using Rel.tyE | cases r0 using Rel.rngE | cases r0)
      exact this
    · have hk : (kvs.map (·.1)).Nodup := by
        rw [rk.keys, show l.map (fun p => mkS p.1) = (l.map (·.1)).map mkS by rw [List.map_map]; rfl]
        exact List.Pairwise.map _ (fun a b h e => h (mkS_inj e)) hn
      rw [merged_nil_of_nodup _ hk] at hd
      obtain ⟨o', ho', hi⟩ := Heap.dictOf_iff.mp hd
      obtain ⟨es', n', rfl, r'⟩ := rk.back hi
      have M4 := M3.upd (Upd.head cs) hs ho' (.sd es' n' l r') (s3.toks + vs.length)
      obtain ⟨o5, ho5, h5, M5, l5⟩ := M4.freeze
      cases ho5 with
      | sd es5 n5 _ r5 =>
        exact ⟨_, .sd l, cs, l3.trans l5, .sd _ es5 n5 l ne (by unfold Wd.put; rw [if_pos rfl]) (RelS.mono c.w c.ad l5 r5), M5, q⟩

noncomputable def EqIn (prog : Program) (w : World) (A : Around) (s : Shared) (y x : Value) : Prop := ∀ (E : Value → Shared → Prop) (Q : Bool → Shared → Prop), Q true s → wpAny (model prog w) A (eqBool y x) Q E s

theorem tupEq2 {prog : Program} {w : World} {A : Around} {E : Value → Shared → Prop} {s : Shared} {l b : Addr} {v1 v2 u1 u2 : Value} {n n2 : Nat} {Q : Value → Shared → Prop}
    (hl : s.heap.get? l = some (tupObj [v1, v2] n)) (hb : s.heap.get? b = some (tupObj [u1, u2] n2)) (hu : A.units < cLine) (h1 : EqIn prog w A.in1 s v1 u1) (h2 : EqIn prog w A.in1 s v2 u2) (h : Q (.bool true) s) :
    wpAny (model prog w) A (compareOp .Eq (.ref l) (.ref b)) Q E s := by
  refine wpAny_richCompare_same_room (op := .Eq) (T := "tuple") ⟨_, hl, rfl⟩ ⟨_, hb, rfl⟩ PySem.F.slot_tuple_eq (wpAny_call_entry PySem.F.slot_tuple_eq ⟨_, hl, rfl⟩ PySem.F.entry_tuple_eq ?_ (PySem.F.args_tuple_eq_2 _ _)) hu
  have f2 := AutoSeq1.sub_tuple_tuple
  unfold tupObj at hl hb
  unfold Builtin.«tuple.__eq__»
  obtain ⟨hp, g, d, tk, os⟩ := s
  wp_walk using wpAny_loadPart' hl, wpAny_loadPart' hb, wpAny_forIn_list _ (fun rest b s' => b.1 = none ∧ s' = ⟨hp, g, d, tk, os⟩ ∧ ∀ p ∈ rest, EqIn prog w A.in1 ⟨hp, g, d, tk, os⟩ p.1 p.2) _
  case turn =>
    rintro ⟨y, x⟩ rest b s' ⟨hb', rfl, hz⟩
    refine wpAny_bind (hz _ List.mem_cons_self _ _ ?_)
    wp_walk
    exact ⟨rfl, rfl, fun p hp => hz p (List.mem_cons_of_mem _ hp)⟩
  case fin =>
    rintro ⟨b1, b2⟩ s' ⟨hb', rfl, hz⟩
    simp only at hb'
    subst hb'
    wp_walk
    exact ⟨_, rfl, (fun x => nomatch x), h⟩
  refine ⟨rfl, rfl, fun p hp => ?_⟩
  simp at hp
  rcases hp with rfl | rfl
  · exact h1
  · exact h2

theorem EqIn.refs {prog : Program} {w : World} {A : Around} {s : Shared} {l b : Addr} (hne : l ≠ b) (h : ∀ (E Q : Value → Shared → Prop), Q (.bool true) s → wpAny (model prog w) A (compareOp .Eq (.ref l) (.ref b)) Q E s) : EqIn prog w A s (.ref l) (.ref b) := fun E Q hq => by
  unfold eqBool
  refine wpAny_holding ?_
  refine wpAny_ite_split (fun hab => absurd (eq_of_beq hab) (by simp [hne])) (fun _ => ?_)
  exact wpAny_bind (h E _ (wpAny_truthy_bool hq))

theorem RelKS.one {W : Wd} {b : List Nat} {x : V} {L : List (Str × Value)} (h : RelKS c W L [(b, x)]) : ∃ w, L = [(mkS b, w)] ∧ RV c W w x := by
  cases L with
  | nil => exact h.elim
  | cons p r =>
    obtain ⟨h1, h2, h3⟩ := h
    cases r with
    | nil => exact ⟨p.2, by rw [← h1], h2⟩
    | cons => exact h3.elim
open PySem.SeqAt in
/-- two pairs of a word and a dict of one word are the same -/
theorem C_eqTD {x b t : List Nat} (hu : A.units + 100 < cLine) (q : QB true cs) : Cmp c A cs .Eq (.tup [.str x, .sd [(b, .str t)]]) (.tup [.str x, .sd [(b, .str t)]]) QB := fun W F s v u M r1 r2 => by
  cases r1 using Rel.tupE with
  | tup a vs n _ h rv =>
    cases r2 using Rel.tupE with
    | tup a2 vs2 n2 _ h2 rv2 =>
      cases rv using RelL.consE with
      | cons v1 _ vs _ p1 rv => cases rv using RelL.consE with
        | cons v2 _ vs _ p2 rv =>
          (first | cases rv using Rel.intE | cases rv using Rel.refE | cases rv using RelL.nilE | cases rv using Rel.strE | cases rv using Rel.bytesE | cases rv using Rel.noneE | cases rv using Rel.boolE | cases rv using Rel.listE | cases rv using Rel.tupE | cases rv using Rel.sdE | cases rv using Rel.iddE | cases rv using Rel.biE | cases rv using Rel.tyE | cases rv using Rel.rngE | cases rv)
          cases rv2 using RelL.consE with
          | cons u1 _ us _ q1 rv2 => cases rv2 using RelL.consE with
            | cons u2 _ us _ q2 rv2 =>
              (first | cases rv2 using Rel.intE | cases rv2 using Rel.refE | cases rv2 using RelL.nilE | cases rv2 using Rel.strE | cases rv2 using Rel.bytesE | cases rv2 using Rel.noneE | cases rv2 using Rel.boolE | cases rv2 using Rel.listE | cases rv2 using Rel.tupE | cases rv2 using Rel.sdE | cases rv2 using Rel.iddE | cases rv2 using Rel.biE | cases rv2 using Rel.tyE | cases rv2 using Rel.rngE | cases rv2)
              refine tupEq2 (M.hw _ _ h) (M.hw _ _ h2) (by lia) ?_ ?_ (here (.bool _) M ⟨_, rfl, q⟩)
              · obtain ⟨t1, rfl⟩ := inS M p1
                obtain ⟨t2, rfl⟩ := inS M q1
                have := EqAt.str_str (A := A.in1) (s := s) (mkS x) t1 (mkS x) t2
                rw [show (mkS x == mkS x) = true from beq_self_eq_true _] at this
                exact fun E Q hq => this _ _ E Q hq
              · cases p2 with
                | sd d1 es1 m1 _ ne1 hd1 rs1 =>
                  cases q2 with
                  | sd d2 es2 m2 _ ne2 hd2 rs2 =>
                    by_cases hdd : d1 = d2
                    · subst hdd; exact fun E Q hq => EqAt.same _ _ _ E Q hq
                    · have D1 := (rs1.dictAt (by simp) (M.hw _ _ hd1)).dictOf
                      have D2 := (rs2.dictAt (by simp) (M.hw _ _ hd2)).dictOf
                      have k1 := rs1.kvs
                      have k2 := rs2.kvs
                      generalize kvS es1 = L1 at D1 k1
                      generalize kvS es2 = L2 at D2 k2
                      obtain ⟨w1, rfl, g1⟩ := k1.one
                      obtain ⟨w2, rfl, g2⟩ := k2.one
                      · · obtain ⟨t1, rfl⟩ := inS M g1
                          obtain ⟨t2, rfl⟩ := inS M g2
                          refine EqIn.refs hdd fun E Q hq => PySem.W.keq_eq (r := true) (notMod ne1) (notMod ne2) D1 D2 (by rw [Around.in1_units]; lia) (fun _ => ?_) hq
                          have he := EqAt.str_str (A := A.in1.in1) (s := s) (mkS t) t1 (mkS t) t2
                          rw [show (mkS t == mkS t) = true from beq_self_eq_true _] at he
                          exact .hit (e := true) (b := true) (by simp [valueAt]) he .nil
end
end U

namespace U
open PySem PyProof.Rows PySem.Calls
local macro_rules | `(tactic| walk_at "at") => `(tactic| repeat (first | with_reducible apply At.head | apply At.tail))
local macro_rules | `(tactic| walk_at "atx") => `(tactic| repeat (first | with_unfolding_all apply At.head | apply At.tail))
local macro_rules | `(tactic| walk_at "loc") => `(tactic| repeat (first | with_reducible apply Loc.head | apply Loc.tail))
local macro_rules | `(tactic| walk_at "upd") => `(tactic| repeat (first | with_reducible apply Upd.head | apply Upd.tail))
local macro_rules | `(tactic| walk_at "put") => `(tactic| repeat (first | with_reducible apply LocPut.head | apply LocPut.tail))
local macro_rules | `(tactic| walk_at "take") => `(tactic| repeat (first | with_reducible apply Take.head | apply Take.tail))
local macro_rules | `(tactic| walk_at "tup") => `(tactic| repeat (first | with_reducible apply Tup.head | apply Tup.tail))
local macro_rules | `(tactic| walk_at "asg") => `(tactic| with_reducible refine ⟨_, _, _, by walk_at "upd", by walk_at "put", ?_⟩)
local macro_rules | `(tactic| walk_at "glob") => `(tactic| with_reducible first | exact gm8 | exact gm9 | exact gm10 | exact gm17 | exact gm18 | exact gm19 | exact gm20 | exact gm21 | exact gm22 | exact gm23 | exact gm24 | exact gm25 | exact gm26 | exact gm27 | exact gm28 | exact gm29 | exact gm33 | exact gm34 | exact gm35 | exact gm37 | exact gm52 | exact gm53 | exact gm54 | exact gm55 | exact gm56 | exact gm57 | exact gm58 | exact gm59 | exact gm60 | exact gm61 | exact gm62 | exact gm63 | exact gm64 | exact gm65 | exact gm66 | exact gm67 | exact gm68 | exact gm69 | exact gm70 | exact gm71 | exact gm72 | exact gm73 | exact gm74 | exact gm76 | exact gm77 | exact gm78 | exact gm79 | exact gm80 | exact gm_Cursor | exact gm_ASCII | exact gm_LATIN | exact gm_UTF8 | exact gm_CHARSETS | exact gm_NEVER_ESCAPED | exact gm_WHITE | exact gm_SEMICOLON | exact gm_EQUALS | exact gm_QUOTE | exact gm_BRACKET | exact gm_PER_CENT | exact gm_BARRED | exact gm_BARRED_IN_NAMES | exact gm_HEX_FIGURES | exact gm_WIDTH | exact gm_MOST_NAME | exact gm_MOST_PARTS | exact gm_ROOM)
local macro_rules | `(tactic| walk_at "dec") => `(tactic| first | with_reducible refine Ite.t ?_ | with_reducible refine Ite.f ?_ | with_reducible refine Ite_not ?_ | with_reducible refine Ite_dt (by first | decide | omega) ?_ | with_reducible refine Ite_df (by first | decide | omega) ?_ | with_reducible refine Ite_dt (by decide +kernel) ?_ | with_reducible refine Ite_df (by decide +kernel) ?_)
local macro_rules | `(tactic| walk_at "u1") => `(tactic| first
  | (with_reducible refine (?_ : GE _ _ _ (eval (Expr.Name _ _) _) _); with_reducible first | refine K_lK (h := by walk_at "at") (l := by walk_at "loc") (q := ?_) | refine E_lC (by walk_at "at") (by walk_at "loc") ?_ | refine K_lKC (h := by walk_at "at") (l := by walk_at "loc") (q := ?_) | refine EB_len ?_ | refine EB_bytes ?_ | refine EB_chr ?_ | refine EB_ord ?_ | refine EB_range ?_ | refine EB_str ?_ | refine EB_int ?_ | refine EB_abs ?_ | refine EB_max ?_ | refine EB_list ?_ | refine E_global (by walk_at "glob") ?_ | refine E_cell (by kernel_rfl!) (by with_unfolding_all rfl) (by walk_at "atx") ?_ | refine E_free (by kernel_rfl!) (by with_unfolding_all rfl) (by walk_at "atx") ?_)
  | (with_reducible refine (?_ : GE _ _ _ (eval (Expr.Constant _ _ _) _) _); with_reducible first | refine E_int ?_ | refine E_str ?_ | refine E_bytes ?_ | refine E_none ?_ | refine E_bool ?_)
  | (with_reducible refine (?_ : GE _ _ _ (eval _ _) _); with_reducible first | refine K_Meth ?_ | refine K_Call ?_ | refine K_Attr ?_ | refine K_BinOp ?_ | refine K_Cut ?_ | refine K_Sub ?_ | refine K_Tup ?_ | refine K_List ?_ | refine K_UnaryOp ?_ | refine K_IfExp ?_ | refine K_Cmp1 ?_ | refine E_Cmp2 ?_ | refine E_And ?_ | refine E_Or ?_)
  | (with_reducible refine (?_ : GS _ _ _ (execs _ _) _); with_reducible first | refine K_cons ?_ | refine S_nil ?_)
  | (with_reducible refine (?_ : GS _ _ _ (exec _ _) _); with_reducible first | refine K_AsK ?_ | refine K_Return ?_ | refine K_If ?_ | refine K_Expr ?_ | refine K_AssignSub ?_ | refine K_AssignTup ?_ | refine K_AssignAttr ?_ | refine K_AsKC ?_ | refine S_Return0 ?_ | refine S_Pass ?_ | refine S_AssignC (by kernel_rfl!) (by with_unfolding_all rfl) ?_)
  | (with_reducible refine (?_ : GB _ _ _ (isTrue _ _ _) _); with_reducible first | refine KB_Cmp1 ?_ | refine B_Cmp2 ?_ | refine KB_Not ?_ | refine KB_And ?_ | refine KB_Or ?_ | refine B_AndNil ?_ | refine B_OrNil ?_ | refine KB_val ?_)
  | (with_reducible refine (?_ : Op2 _ _ _ _ _ _ _ _); with_reducible first | refine O_add ?_ | refine O_sub ?_ | refine C_lt ?_ | refine C_gt ?_ | refine C_le ?_ | refine C_ge ?_ | refine C_eq ?_ | refine C_ne ?_ | refine C_eqS ?_ | refine C_neS ?_ | refine C_leS ?_ | refine C_inS1 ?_ | refine C_eqB ?_ | refine C_neB ?_ | refine C_isNone ?_ | refine C_isTup ?_ | refine O_mod (by decide) ?_ | refine O_addS (by first | decide | lia | (simp [bs]; done) | (simp [bs]; lia)) ?_ | refine O_addB (by first | decide | lia | (simp [bs]; done) | (simp [bs]; lia)) ?_)
  | (with_reducible refine (?_ : Ite _ _ _); first | walk_at "dec")
  | (with_reducible refine (?_ : Asg _ _ _ _ _ _ _); with_reducible first | refine Asg_nK (by walk_at "upd") (by walk_at "put") ?_ | refine Asg_nKC (by walk_at "upd") (by walk_at "put") ?_ | refine Asg_Tuple (by assumption) ?_ | refine Asg_Attr ?_)
  | (with_reducible refine (?_ : CallV _ _ _ _ _ _ _ _); with_reducible first | refine K_fn ?_ | refine K_bi ?_ | refine K_ty ?_)
  | (with_reducible refine (?_ : Out _ _ _ _ _); with_reducible first | refine Out_keepF (by walk_at "take") (by walk_at "take") ?_ | refine Out_keep (by walk_at "take") ?_ | refine Out_keepN (by walk_at "take") ?_ | refine Out_frz (by solve | walk_at "take") ?_ | refine Out_ret ?_ | refine Out_next ?_)
  | (with_reducible refine (?_ : LoopK _ _ _ _); with_reducible first | refine LoopK_next ?_ | refine LoopK_cont ?_ | refine LoopK_brk ?_ | refine LoopK_ret ?_)
  | (with_reducible first | refine A_nil ?_ | refine K_arg ?_ | refine P_none ?_ | refine K_part ?_ | refine sz_and ?_ | refine Tru_bool ?_ | refine O_neg ?_ | refine B_ord ?_ | refine L_bytes (by first | decide | lia | (simp [bs]; done) | (simp [bs]; lia)) ?_ | refine L_str (by first | decide | lia | (simp [bs]; done) | (simp [bs]; lia)) ?_ | refine K_Asgs ?_ | refine Asgs_nil ?_ | refine exInt ?_ | refine EA_data (by walk_at "at") ?_ | refine EA_at (by walk_at "at") ?_ | refine EA_end (by walk_at "at") ?_ | refine Meth_peek (by walk_at "at") ?_ | refine Meth_take (by walk_at "at") ?_ | refine Meth_done (by walk_at "at") ?_ | refine SA_at (by walk_at "upd") ?_)
  | walk_at "asg")
local macro_rules | `(tactic| walk_at "u") => `(tactic| repeat walk_at "u1")
local macro_rules | `(tactic| walk_at "ite") => `(tactic| with_reducible refine Ite_d (fun _ => ?_) (fun _ => ?_))
local macro_rules | `(tactic| walk_at "bind") => `(tactic| (intro pm code doc vs h; first | (refine len1 h fun _ => ?_; rfl) | (refine len2 h fun _ _ => ?_; rfl) | (refine len3 h fun _ _ _ => ?_; rfl) | (refine len4 h fun _ _ _ _ => ?_; rfl) | (cases vs <;> first | (simp at h; done) | rfl)))
local macro_rules | `(tactic| walk_at "start") => `(tactic| ((conv in fnBody _ => whnf); dsimp only [frame0, fz1, fz2, fm1, fm2, fa1, fa2]))
local macro_rules | `(tactic| walk_at "for") => `(tactic| with_reducible refine S_For (by assumption) ?_)
local macro_rules | `(tactic| walk_at "comp") => `(tactic| with_reducible refine E_ListComp (cl := []) (by assumption) (by with_unfolding_all rfl) ?_)
local macro_rules | `(tactic| walk_at "compC") => `(tactic| with_reducible refine E_ListCompC (cl := []) (by assumption) (by with_unfolding_all rfl) ?_)
local macro_rules | `(tactic| walk_at "frz") => `(tactic| (with_reducible refine E_Frz ?_; walk_at "u"; with_reducible refine ⟨_, _, _, rfl, by walk_at "take", ?_⟩))
local macro_rules | `(tactic| walk_at "compF") => `(tactic| with_reducible refine E_ListComp (by assumption) (by with_unfolding_all rfl) ?_)
local macro_rules | `(tactic| walk_at "while") => `(tactic| with_reducible refine S_While ?_)
local macro_rules | `(tactic| walk_at "append") => `(tactic| (refine MethV_of PySem.F.plainAttrs_list PySem.F.slot_list_append PySem.F.type_list_append (OfT_rlist (by walk_at "at")) ?_))

local macro_rules | `(tactic| walk_at "joinB") => `(tactic| (refine MethV_of PySem.W.FB.plainAttrs_bytes byte_slot_join byte_type_join OfT_bytes ?_))
local macro_rules | `(tactic| walk_at "uf") => `(tactic| repeat (first | (with_reducible refine (?_ : GE _ _ _ (eval _ _) _); with_reducible refine E_ListF ?_) | walk_at "u1"))
local macro_rules | `(tactic| walk_at "asgC") => `(tactic| refine ⟨_, _, by walk_at "updx", ?_⟩)
local macro_rules | `(tactic| walk_at "updx") => `(tactic| repeat (first | with_unfolding_all apply Upd.head | apply Upd.tail))
local macro_rules | `(tactic| walk_at "asgX") => `(tactic| refine ⟨_, _, _, by walk_at "updx", by walk_at "put", ?_⟩)

/-! ## V1 -/
section
variable {c : Cx} {A : Around} {n : Nat} {rest : Cs} {Q : V → Cs → Prop}
noncomputable def lowerCode (i : Int) : Int := if 65 ≤ i ∧ i ≤ 90 then i + 32 else i
theorem lower_code_ (ok : Ok A (n + 1)) {i : Int} (q : Q (.int (lowerCode i)) rest) : Cal c A rest 8 [.int i] Q := by
  refine Cal_of (pass := []) (ps := [Str.ofString "code"]) (others := []) ok (Nat.le_refl _) (fun pm code doc L a ok' => ?_) (by walk_at "bind")
  walk_at "start"
  walk_at "u"
  walk_at "ite"
  · walk_at "u"
    walk_at "ite"
    · walk_at "u"
      exact qI q (by unfold lowerCode; split <;> lia)
    · walk_at "u"
      exact qI q (by unfold lowerCode; split <;> lia)
  · walk_at "u"
    exact qI q (by unfold lowerCode; split <;> lia)

theorem len16 {α : Type} {l : List α} (h : l.length ≤ 4096) : l.length ≤ sizeLine := by rw [sizeL]; lia

/-- what lower gives for small ints -/
noncomputable def lowerN (i : Nat) : Nat := if 65 ≤ i ∧ i ≤ 90 then i + 32 else i
theorem lowerN_eq (i : Nat) : lowerCode i = (lowerN i : Nat) := by unfold lowerCode lowerN; split <;> split <;> lia
theorem lowerN_lt {i : Nat} (h : i < 256) : lowerN i < 256 := by unfold lowerN; split <;> lia

theorem lower_ {x : List Nat} (ok : Ok A (n + 2)) (hx : ∀ i ∈ x, i < 256) (hz : x.length ≤ 4096) (q : Q (.bytes (x.map lowerN)) rest) : Cal c A rest 9 [.bytes x] Q := by
  refine Cal_of (pass := []) (ps := [Str.ofString "octets"]) (others := []) ok (Nat.le_refl _) (fun pm code doc L a ok' => ?_) (by walk_at "bind")
  walk_at "start"
  walk_at "u"
  refine E_ListComp ok'.handled (cl := []) rfl ?_
  walk_at "u"
  refine ⟨_, fun v => match v with | .int i => .int (lowerCode i) | v => v, fun _ => true, IterV_bytes, by rw [List.length_map]; exact len16 hz, fun C y hy => T_nil ⟨rfl, rfl⟩, fun C y hy _ => ?_, ?_⟩
  · obtain ⟨i, hi, rfl⟩ := List.mem_map.mp hy
    walk_at "u"
    refine lower_code_ (n := n) (ok'.le (by lia)) ?_
    exact ⟨rfl, rfl⟩
  · refine T_bytes (ns := x.map lowerN) ok'.handled ?_ (fun i hi => ?_) (by rw [List.length_map]; lia) ?_
    · have e : (List.map (fun v => match v with | V.int i => V.int (lowerCode i) | v => v) (List.filter (fun _ => true) (x.map fun (n : Nat) => V.int n))) = (x.map lowerN).map fun (n : Nat) => V.int n := by
        rw [List.filter_eq_self.mpr (by simp), List.map_map, List.map_map]
        exact List.map_congr_left fun i _ => congrArg V.int (lowerN_eq i)
      rw [e]; exact IsL_f
    · obtain ⟨j, hj, rfl⟩ := List.mem_map.mp hi
      exact lowerN_lt (hx j hj)
    · walk_at "u"
      exact q
end

/-! ## V2 -/
section
variable {c : Cx} {A : Around} {n : Nat} {rest : Cs} {Q : V → Cs → Prop}

theorem qB {Q : V → Cs → Prop} {cs : Cs} {i j : Bool} (q : Q (.bool i) cs) (e : j = i) : Q (.bool j) cs := e ▸ q
theorem flat1 {α : Type} (l : List α) : (l.map fun a => [a]).flatten = l := by induction l with | nil => rfl | cons a l ih => simp [ih]
theorem sum1 {α : Type} (l : List α) : ((l.map fun a => [a]).map List.length).sum = l.length := by induction l with | nil => rfl | cons a l ih => (rw [List.map_cons, List.map_cons, List.sum_cons, ih]; simp; lia)

theorem lower_text_ {x : List Nat} (ok : Ok A (n + 2)) (hx : ∀ i ∈ x, i < 1000) (hz : x.length ≤ 4096) (q : Q (.str (x.map lowerN)) rest) : Cal c A rest 10 [.str x] Q := by
  refine Cal_of (pass := []) (ps := [Str.ofString "text"]) (others := []) ok (Nat.le_refl _) (fun pm code doc L a ok' => ?_) (by walk_at "bind")
  walk_at "start"
  walk_at "u"
  refine MethV_of PySem.F.plainAttrs_str PySem.F.slot_str_join PySem.F.type_str_join OfT_str ?_
  walk_at "u"
  refine E_ListComp ok'.handled (cl := []) rfl ?_
  walk_at "u"
  refine ⟨_, fun v => match v with | .str [i] => .str [lowerN i] | v => v, fun _ => true, IterV_str, by rw [List.length_map]; exact len16 hz, fun C y hy => T_nil ⟨rfl, rfl⟩, fun C y hy _ => ?_, ?_⟩
  · obtain ⟨i, hi, rfl⟩ := List.mem_map.mp hy
    walk_at "u"
    refine lower_code_ (n := n) (ok'.le (by lia)) ?_
    rw [lowerN_eq]
    refine B_chr (by lia) (by have := hx i hi; unfold lowerN; split <;> lia) ⟨rfl, rfl⟩
  · walk_at "u"
    refine M_joinS (ns := (x.map lowerN).map fun a => [a]) ?_ ?_ ?_
    · have e : (List.map (fun v => match v with | V.str [i] => V.str [lowerN i] | v => v) (List.filter (fun _ => true) (x.map fun (n : Nat) => V.str [n]))) = ((x.map lowerN).map fun a => [a]).map V.str := by
        rw [List.filter_eq_self.mpr (by simp), List.map_map, List.map_map, List.map_map]; rfl
      rw [e]; exact IsL_f
    · rw [sum1]; simp; lia
    · walk_at "u"
      rw [flat1]; exact q

noncomputable def barred : List Nat := [40, 41, 60, 62, 64, 44, 59, 58, 92, 34, 47, 91, 93, 63, 61]
noncomputable def isTok (i : Int) : Bool := decide (32 < i) && decide (i < 127) && decide (i.toNat ∉ barred)
theorem is_token_code_ (ok : Ok A (n + 1)) {i : Int} (q : Q (.bool (isTok i)) rest) : Cal c A rest 52 [.int i] Q := by
  refine Cal_of (pass := []) (ps := [Str.ofString "code"]) (others := []) ok (Nat.le_refl _) (fun pm code doc L a ok' => ?_) (by walk_at "bind")
  walk_at "start"
  walk_at "u"
  walk_at "ite"
  · walk_at "u"
    walk_at "ite"
    · walk_at "u"
      refine C_ninB (by lia) (by lia) ?_
      walk_at "u"
      refine qB q ?_
      rename_i h1 h2
      simp [isTok, h1, h2, barred]
    · walk_at "u"
      refine qB q ?_
      rename_i h1 h2
      simp [isTok, h1, h2, barred]
  · walk_at "u"
    refine qB q ?_
    rename_i h1
    simp [isTok, h1]
theorem is_worth_code_ (ok : Ok A (n + 2)) {i : Int} (q : Q (.bool (decide (127 < i) || isTok i)) rest) : Cal c A rest 55 [.int i] Q := by
  refine Cal_of (pass := []) (ps := [Str.ofString "code"]) (others := []) ok (Nat.le_refl _) (fun pm code doc L a ok' => ?_) (by walk_at "bind")
  walk_at "start"
  walk_at "u"
  walk_at "ite"
  · walk_at "u"
    rename_i h
    exact qB q (by simp [h])
  · walk_at "u"
    refine is_token_code_ (n := n) (ok'.le (by lia)) ?_
    walk_at "u"
    rename_i h
    exact qB q (by simp [h])

theorem small_word_ {x : List Nat} (ok : Ok A (n + 3)) (hx : ∀ i ∈ x, i < 256) (hz : x.length ≤ 4096) (q : Q (.str (x.map lowerN)) rest) : Cal c A rest 57 [.bytes x] Q := by
  refine Cal_of (pass := []) (ps := [Str.ofString "octets"]) (others := []) ok (Nat.le_refl _) (fun pm code doc L a ok' => ?_) (by walk_at "bind")
  walk_at "start"
  walk_at "u"
  refine MethV_of PySem.F.plainAttrs_str PySem.F.slot_str_join PySem.F.type_str_join OfT_str ?_
  walk_at "u"
  refine E_ListComp ok'.handled (cl := []) rfl ?_
  walk_at "u"
  refine lower_ (n := n) (ok'.le (by lia)) hx hz ?_
  refine ⟨_, fun v => match v with | .int i => .str [i.toNat] | v => v, fun _ => true, IterV_bytes, by rw [List.length_map, List.length_map]; exact len16 hz, fun C y hy => T_nil ⟨rfl, rfl⟩, fun C y hy _ => ?_, ?_⟩
  · obtain ⟨i, hi, rfl⟩ := List.mem_map.mp hy
    obtain ⟨j, hj, rfl⟩ := List.mem_map.mp hi
    have := lowerN_lt (hx j hj)
    walk_at "u"
    refine B_chr (by lia) (by lia) ⟨rfl, rfl⟩
  · walk_at "u"
    refine M_joinS (ns := (x.map lowerN).map fun a => [a]) ?_ ?_ ?_
    · have e : (List.map (fun v => match v with | V.int i => V.str [i.toNat] | v => v) (List.filter (fun _ => true) ((x.map lowerN).map fun (n : Nat) => V.int n))) = ((x.map lowerN).map fun a => [a]).map V.str := by
        rw [List.filter_eq_self.mpr (by simp)]; simp only [List.map_map]; rfl
      rw [e]; exact IsL_f
    · rw [sum1]; simp; lia
    · walk_at "u"
      rw [flat1]; exact q

theorem number_octets_ {k : Nat} (hk : k < 10) (ok : Ok A (n + 1)) (q : Q (.bytes [48 + k]) rest) : Cal c A rest 73 [.int k] Q := by
  refine Cal_of (pass := []) (ps := [Str.ofString "number"]) (others := []) ok (Nat.le_refl _) (fun pm code doc L a ok' => ?_) (by walk_at "bind")
  walk_at "start"
  walk_at "u"
  refine E_ListComp ok'.handled (cl := []) rfl ?_
  walk_at "u"
  refine T_strInt hk ?_
  refine ⟨_, fun v => match v with | .str [i] => .int i | v => v, fun _ => true, IterV_str, by simp [sizeL], fun C y hy => T_nil ⟨rfl, rfl⟩, fun C y hy _ => ?_, ?_⟩
  · obtain ⟨i, hi, rfl⟩ := List.mem_map.mp hy
    walk_at "u"
    exact ⟨rfl, rfl⟩
  · refine T_bytes (ns := [48 + k]) ok'.handled IsL_f (by simp; lia) (by simp) ?_
    walk_at "u"
    exact q
end

/-! ## V3 -/
section
variable {c : Cx} {A : Around} {n : Nat} {rest : Cs} {Q : V → Cs → Prop}

theorem filter_nil {α : Type} {l : List α} {p : α → Bool} : (l.filter p = []) ↔ ∀ a ∈ l, p a = false := by
  rw [List.filter_eq_nil_iff]; simp
theorem is_token_ {x : List Nat} (ok : Ok A (n + 2)) (hz : x.length ≤ 4096) (q : Q (.bool (decide (x ≠ [] ∧ ∀ i ∈ x, isTok i = true))) rest) : Cal c A rest 67 [.bytes x] Q := by
  refine Cal_of (pass := []) (ps := [Str.ofString "octets"]) (others := []) ok (Nat.le_refl _) (fun pm code doc L a ok' => ?_) (by walk_at "bind")
  walk_at "start"
  walk_at "u"
  walk_at "ite"
  · rename_i h
    have hne : x ≠ [] := by intro e; subst e; simp at h
    walk_at "u"
    refine E_ListComp ok'.handled (cl := []) rfl ?_
    walk_at "u"
    refine ⟨_, fun v => v, fun v => match v with | .int i => !isTok i | _ => false, IterV_bytes, by rw [List.length_map]; exact len16 hz, fun C y hy => T_one ?_, fun C y hy _ => ?_, ?_⟩
    · obtain ⟨i, hi, rfl⟩ := List.mem_map.mp hy
      walk_at "u"
      refine is_token_code_ (n := n) (ok'.le (by lia)) ?_
      walk_at "u"
      exact ⟨rfl, rfl⟩
    · walk_at "u"
      exact ⟨rfl, rfl⟩
    · walk_at "u"
      intro b
      refine C_eqNil ok'.unit IsL_f (IsL_c (At.head _)) ?_
      walk_at "u"
      refine qB q ?_
      rw [Bool.eq_iff_iff, decide_eq_true_iff, decide_eq_true_iff, List.map_eq_nil_iff, filter_nil]
      constructor
      · intro h2
        refine ⟨hne, fun i hi => ?_⟩
        have := h2 (V.int i) (List.mem_map.mpr ⟨i, hi, rfl⟩)
        simpa using this
      · rintro ⟨_, h2⟩ v hv
        obtain ⟨i, hi, rfl⟩ := List.mem_map.mp hv
        simp [h2 i hi]
  · rename_i h
    walk_at "u"
    refine qB q ?_
    have hx : x = [] := by rcases x with _ | ⟨b, x⟩; rfl; exfalso; apply h; simp
    subst hx
    simp

theorem is_plain_ {x : List Nat} (ok : Ok A (n + 1)) (hz : x.length ≤ 4096) (q : Q (.bool (decide (∀ i ∈ x, 32 ≤ i ∧ i < 127))) rest) : Cal c A rest 68 [.str x] Q := by
  refine Cal_of (pass := []) (ps := [Str.ofString "text"]) (others := []) ok (Nat.le_refl _) (fun pm code doc L a ok' => ?_) (by walk_at "bind")
  walk_at "start"
  walk_at "u"
  refine E_ListComp ok'.handled (cl := []) rfl ?_
  walk_at "u"
  refine ⟨_, fun v => v, fun v => match v with | .str [i] => !(decide (32 ≤ (i : Int)) && decide ((i : Int) < 127)) | _ => false, IterV_str, by rw [List.length_map]; exact len16 hz, fun C y hy => T_one ?_, fun C y hy _ => ?_, ?_⟩
  · obtain ⟨i, hi, rfl⟩ := List.mem_map.mp hy
    walk_at "u"
    walk_at "ite"
    · walk_at "u"
      rename_i h
      exact ⟨by simp [h], rfl⟩
    · rename_i h
      exact ⟨by simp [h], rfl⟩
  · walk_at "u"
    exact ⟨rfl, rfl⟩
  · walk_at "u"
    intro b
    refine C_eqNil ok'.unit IsL_f (IsL_c (At.head _)) ?_
    walk_at "u"
    refine qB q ?_
    rw [Bool.eq_iff_iff, decide_eq_true_iff, decide_eq_true_iff, List.map_eq_nil_iff, filter_nil]
    constructor
    · intro h2 i hi
      have := h2 (V.str [i]) (List.mem_map.mpr ⟨i, hi, rfl⟩)
      simp at this
      lia
    · intro h2 v hv
      obtain ⟨i, hi, rfl⟩ := List.mem_map.mp hv
      have := h2 i hi
      simp
      lia

noncomputable def utf8 : List Nat := [117, 116, 102, 45, 56]
theorem need_charset_ (ok : Ok A (n + 1)) (q : Q .none rest) : Cal c A rest 19 [.str utf8] Q := by
  refine Cal_of (pass := []) (ps := [Str.ofString "charset"]) (others := []) ok (Nat.le_refl _) (fun pm code doc L a ok' => ?_) (by walk_at "bind")
  walk_at "start"
  walk_at "u"
  refine C_ninTS (ns := [ss "us-ascii", ss "iso-8859-1", ss "utf-8"]) ?_
  walk_at "ite"
  · rename_i h
    exact absurd (show utf8 ∈ [ss "us-ascii", ss "iso-8859-1", ss "utf-8"] by decide +kernel) h
  · walk_at "u"
    exact q

noncomputable def tabA : List (List Nat × V) := ["us-ascii", "ascii", "ansi_x3.4-1968", "iso_646.irv:1991", "iso-ir-6", "iso646-us", "us", "cp367", "ibm367"].map fun x => (ss x, strV "us-ascii")
noncomputable def tabL : List (List Nat × V) := ["iso-8859-1", "iso_8859-1", "iso_8859-1:1987", "iso-ir-100", "latin1", "l1", "cp819", "ibm819"].map fun x => (ss x, strV "iso-8859-1")
noncomputable def tabU : List (List Nat × V) := ["utf-8", "utf8"].map fun x => (ss x, strV "utf-8")
noncomputable def charTab : List (List Nat × V) := tabA ++ tabL ++ tabU

theorem nd17 (pre : List (List Nat × V)) (don : List (List Nat)) (x : List Nat) (rst : List (List Nat)) (v : V) (h : (pre.map (·.1) ++ (don ++ x :: rst)).Nodup) :
    ((pre ++ don.map fun x => (x, v)).map (·.1)).Nodup ∧ x ∉ (pre ++ don.map fun x => (x, v)).map (·.1) := by
  have e : (pre ++ don.map fun x => (x, v)).map (·.1) = pre.map (·.1) ++ don := by simp [Function.comp_def]
  rw [e]
  have h' : ((pre.map (·.1) ++ don) ++ x :: rst).Nodup := by rw [List.append_assoc]; exact h
  obtain ⟨a1, a2, a3⟩ := List.nodup_append.mp h'
  exact ⟨a1, fun hx => a3 x hx x List.mem_cons_self rfl⟩
theorem charset_names_ (ok : Ok A (n + 1)) (q : Q (.sd charTab) rest) : Cal c A rest 17 [] Q := by
  refine Cal_of (pass := []) (ps := []) (others := [Str.ofString "found", Str.ofString "alias"]) ok (Nat.le_refl _) (fun pm code doc L a ok' => ?_) (by walk_at "bind")
  walk_at "start"
  have hA := ok'.handled
  walk_at "u"
  refine E_Dict0S (fun d hd => ?_)
  walk_at "u"
  walk_at "for"
  walk_at "u"
  refine ⟨_, IterV_tup, ?_⟩
  refine GF_inv (toV := V.str) (by assumption) (fun don cs => ∃ o, cs = [(d, .sd (don.map fun x => (x, strV "us-ascii"))), (L, .frame [(Str.ofString "found", some (V.ref d)), (Str.ofString "alias", o)])])
    (["us-ascii", "ascii", "ansi_x3.4-1968", "iso_646.irv:1991", "iso-ir-6", "iso646-us", "us", "cp367", "ibm367"].map ss) ?_ ?_ _ ⟨_, rfl⟩
  · rintro don x rst hx _ ⟨o, rfl⟩
    obtain ⟨h1, h2⟩ := nd17 ([]) don x rst (strV "us-ascii") (by rw [← hx]; decide +kernel)
    rw [List.nil_append] at h1 h2
    have h3 := congrArg List.length hx
    walk_at "u"
    refine SI_S (by walk_at "upd") h1 h2 ?_ ?_
    · simp [tabA, tabL] at h3 ⊢; lia
    · walk_at "u"
      exact ⟨some (V.str x), by simp⟩
  rintro _ ⟨o, rfl⟩
  walk_at "u"
  walk_at "for"
  walk_at "u"
  refine ⟨_, IterV_tup, ?_⟩
  refine GF_inv (toV := V.str) (by assumption) (fun don cs => ∃ o, cs = [(d, .sd (tabA ++ don.map fun x => (x, strV "iso-8859-1"))), (L, .frame [(Str.ofString "found", some (V.ref d)), (Str.ofString "alias", o)])])
    (["iso-8859-1", "iso_8859-1", "iso_8859-1:1987", "iso-ir-100", "latin1", "l1", "cp819", "ibm819"].map ss) ?_ ?_ _ ⟨_, by rw [List.map_nil, List.append_nil]; rfl⟩
  · rintro don x rst hx _ ⟨o, rfl⟩
    obtain ⟨h1, h2⟩ := nd17 (tabA ) don x rst (strV "iso-8859-1") (by rw [← hx]; decide +kernel)
    have h3 := congrArg List.length hx
    walk_at "u"
    refine SI_S (by walk_at "upd") h1 h2 ?_ ?_
    · simp [tabA, tabL] at h3 ⊢; lia
    · walk_at "u"
      exact ⟨some (V.str x), by simp⟩
  rintro _ ⟨o, rfl⟩
  walk_at "u"
  walk_at "for"
  walk_at "u"
  refine ⟨_, IterV_tup, ?_⟩
  refine GF_inv (toV := V.str) (by assumption) (fun don cs => ∃ o, cs = [(d, .sd ((tabA ++ tabL) ++ don.map fun x => (x, strV "utf-8"))), (L, .frame [(Str.ofString "found", some (V.ref d)), (Str.ofString "alias", o)])])
    (["utf-8", "utf8"].map ss) ?_ ?_ _ ⟨_, by rw [List.map_nil, List.append_nil]; rfl⟩
  · rintro don x rst hx _ ⟨o, rfl⟩
    obtain ⟨h1, h2⟩ := nd17 ((tabA ++ tabL) ) don x rst (strV "utf-8") (by rw [← hx]; decide +kernel)
    have h3 := congrArg List.length hx
    walk_at "u"
    refine SI_S (by walk_at "upd") h1 h2 ?_ ?_
    · simp [tabA, tabL] at h3 ⊢; lia
    · walk_at "u"
      exact ⟨some (V.str x), by simp⟩
  rintro _ ⟨o, rfl⟩
  walk_at "u1"
  walk_at "u1"
  refine E_FrzS ?_
  walk_at "u"
  refine ⟨_, _, _, rfl, hd, by walk_at "take", ?_⟩
  walk_at "u"
  exact q

theorem charset_name_ (ok : Ok A (n + 3)) (q : Q (strV "utf-8") rest) : Cal c A rest 18 [.str utf8] Q := by
  refine Cal_of (pass := []) (ps := [Str.ofString "text"]) (others := []) ok (Nat.le_refl _) (fun pm code doc L a ok' => ?_) (by walk_at "bind")
  walk_at "start"
  walk_at "u"
  refine charset_names_ (n := n) (ok'.le (by lia)) ?_
  refine MethV_of PySem.F.plainAttrs_dict PySem.F.slot_dict_get PySem.F.type_dict_get (OfT_S IsS_f) ?_
  walk_at "u"
  refine lower_text_ (n := n) (ok'.le (by lia)) (by decide) (by decide) ?_
  walk_at "u"
  refine M_getS IsS_f (by decide +kernel) (y := strV "utf-8") (k := List.map lowerN utf8) ?_ ?_
  · have : List.map lowerN utf8 = ss "utf-8" := by decide +kernel
    rw [this]
    unfold charTab tabU
    simp
  · walk_at "u"
    exact q
end

/-! ## V4 -/
section
variable {c : Cx} {A : Around} {n : Nat} {rest : Cs} {Q : V → Cs → Prop}

theorem utf8_length_ {k : Nat} (hk : k < 2048) (ok : Ok A (n + 1)) (q : Q (.int (if k ≤ 127 then 1 else 2)) rest) : Cal c A rest 20 [.int k] Q := by
  refine Cal_ofC (pass := []) (ps := [Str.ofString "code"]) [] (fun L => [(Str.ofString "code", L + 1, some (.int k))]) ok (Nat.le_refl _) (fun pm code doc L a ok' => ?_) (by walk_at "bind") ?_ ?_ ?_ ?_
  · (conv in fnBody _ => whnf)
    simp only [List.map_cons, List.map_nil, List.append_nil]
    have hA := ok'.handled
    walk_at "u"
    walk_at "compF"
    walk_at "u"
    refine ⟨_, fun v => v, fun v => match v with | .int i => decide (i < k) | _ => false, IterV_tup, by simp [sizeL], fun C y hy => T_one ?_, fun C y hy _ => ?_, ?_⟩
    · have : ∃ i, y = V.int i := by
        simp at hy; rcases hy with rfl | rfl | rfl <;> exact ⟨_, rfl⟩
      obtain ⟨i, rfl⟩ := this
      walk_at "u"
      exact ⟨rfl, rfl⟩
    · walk_at "u"
      exact ⟨rfl, rfl⟩
    · walk_at "u"
      have hl : ∀ l : List V, (List.map (fun v => v) (List.filter (fun v => match v with | V.int i => decide (i < (k : Int)) | x => false) l)).length ≤ l.length := fun l => by rw [List.length_map]; exact List.length_filter_le _ _
      refine L_list (Nat.le_trans (hl _) (by decide)) ?_
      walk_at "u"
      refine qI q ?_
      by_cases h : k ≤ 127
      · rw [if_pos h]
        have h1 : ¬ ((127 : Int) < k) := by lia
        have h2 : ¬ ((2047 : Int) < k) := by lia
        have h3 : ¬ ((65535 : Int) < k) := by lia
        simp [h1, h2, h3]
      · rw [if_neg h]
        have h1 : (127 : Int) < k := by lia
        have h2 : ¬ ((2047 : Int) < k) := by lia
        have h3 : ¬ ((65535 : Int) < k) := by lia
        simp [h1, h2, h3]
  · intro pm code doc L a vs W r
    cases r using RelL.consE with
    | cons v _ vs _ rv rs =>
      (first | cases rs using Rel.intE | cases rs using Rel.refE | cases rs using RelL.nilE | cases rs using Rel.strE | cases rs using Rel.bytesE | cases rs using Rel.noneE | cases rs using Rel.boolE | cases rs using Rel.listE | cases rs using Rel.tupE | cases rs using Rel.sdE | cases rs using Rel.iddE | cases rs using Rel.biE | cases rs using Rel.tyE | cases rs using Rel.rngE | cases rs)
      refine ⟨fun x v h => by simp at h, fun p hp => ?_⟩
      simp only [List.mem_singleton] at hp
      subst hp
      refine ⟨by with_unfolding_all rfl, fun v' e => ?_⟩
      cases e
      exact ⟨v, by with_unfolding_all rfl, rv⟩
  · intro L x hx
    simp only [List.mem_singleton] at hx
    subst hx
    exact .inr ⟨by decide +kernel, by with_unfolding_all rfl⟩
  · intro L; simp
  · simp
end

/-! ## V5 -/
section
variable {c : Cx} {A : Around} {n : Nat} {rest : Cs} {Q : V → Cs → Prop}

theorem utf8_octets_a {k : Nat} (hk : k < 128) (ok : Ok A (n + 2)) (q : Q (.list [.int k]) rest) : Cal c A rest 21 [.int k] Q := by
  refine Cal_of (pass := []) (ps := [Str.ofString "code"]) (others := [Str.ofString "length", Str.ofString "found", Str.ofString "left", Str.ofString "place"]) ok (Nat.le_refl _) (fun pm code doc L a ok' => ?_) (by walk_at "bind")
  walk_at "start"
  have hA := ok'.handled
  walk_at "u"
  refine utf8_length_ (n := n) (by lia) (ok'.le (by lia)) ?_
  rw [if_pos (by lia)]
  walk_at "u"
  intro b
  walk_at "u"
  refine O_mul1 (IsL_c (At.head _)) (fun b2 => ?_)
  walk_at "u"
  exact q
theorem utf8_octets_e (ok : Ok A (n + 2)) (q : Q (.list [.int 195, .int 169]) rest) : Cal c A rest 21 [.int 233] Q := by
  refine Cal_of (pass := []) (ps := [Str.ofString "code"]) (others := [Str.ofString "length", Str.ofString "found", Str.ofString "left", Str.ofString "place"]) ok (Nat.le_refl _) (fun pm code doc L a ok' => ?_) (by walk_at "bind")
  walk_at "start"
  have hA := ok'.handled
  walk_at "u"
  refine utf8_length_ (k := 233) (n := n) (by lia) (ok'.le (by lia)) ?_
  rw [if_neg (by lia)]
  walk_at "u"
  intro b
  walk_at "u"
  walk_at "for"
  walk_at "u"
  refine T_range1 ?_
  refine ⟨[.int 0], IterV_rng (by decide) (by decide) (by decide) (by decide), ?_⟩
  refine GF.cons (by assumption) ?_
  walk_at "u"
  refine MethV_of PySem.F.plainAttrs_list PySem.F.slot_list_insert PySem.F.type_list_insert (OfT_rlist (by walk_at "at")) ?_
  walk_at "u"
  refine M_insert0 (by walk_at "upd") (by decide) ?_
  walk_at "u"
  refine O_div (by decide) (by decide) ?_
  walk_at "u"
  refine GF.nil (by assumption) ?_
  walk_at "u"
  refine O_shr (by decide) ?_
  walk_at "u"
  intro b2
  walk_at "u"
  refine O_addL (IsL_c (At.head _)) (IsL_c (by walk_at "at")) (by decide) (fun b3 => ?_)
  walk_at "u"
  exact q

theorem follower_span_ (ok : Ok A (n + 1)) (q : Q (.tup [.int 128, .int 191, .int 1]) rest) : Cal c A rest 22 [.int 195] Q := by
  refine Cal_of (pass := []) (ps := [Str.ofString "lead"]) (others := []) ok (Nat.le_refl _) (fun pm code doc L a ok' => ?_) (by walk_at "bind")
  walk_at "start"
  walk_at "u"
  exact q
end

/-! ## V6 -/
section
variable {c : Cx} {A : Around} {n : Nat} {rest : Cs} {Q : V → Cs → Prop}

theorem utf8_sign_a {x : List Nat} {p k : Nat} (hp : x[p]? = some k) (hk : k < 128) (hz : x.length ≤ 4096) (ok : Ok A (n + 2)) (q : Q (.tup [.int k, .int 1]) rest) : Cal c A rest 23 [.bytes x, .int p] Q := by
  refine Cal_of (pass := []) (ps := [Str.ofString "octets", Str.ofString "at"]) (others := [Str.ofString "lead", Str.ofString "least", Str.ofString "most", Str.ofString "count", Str.ofString "code", Str.ofString "place"]) ok (Nat.le_refl _) (fun pm code doc L a ok' => ?_) (by walk_at "bind")
  walk_at "start"
  have hA := ok'.handled
  walk_at "u"
  refine Sub_b (by lia) hp hz ?_
  walk_at "u"
  exact q
theorem utf8_sign_e {x : List Nat} {p : Nat} (hp : x[p]? = some 195) (hp2 : x[p + 1]? = some 169) (hz : x.length ≤ 4096) (ok : Ok A (n + 2)) (q : Q (.tup [.int 233, .int 2]) rest) : Cal c A rest 23 [.bytes x, .int p] Q := by
  refine Cal_of (pass := []) (ps := [Str.ofString "octets", Str.ofString "at"]) (others := [Str.ofString "lead", Str.ofString "least", Str.ofString "most", Str.ofString "count", Str.ofString "code", Str.ofString "place"]) ok (Nat.le_refl _) (fun pm code doc L a ok' => ?_) (by walk_at "bind")
  walk_at "start"
  have hA := ok'.handled
  have hlt := (List.getElem?_eq_some_iff.mp hp2).1
  walk_at "u"
  refine Sub_b (by lia) hp hz ?_
  walk_at "u"
  refine follower_span_ (n := n) (ok'.le (by lia)) ?_
  walk_at "u"
  refine O_shr (by decide) ?_
  walk_at "u"
  walk_at "for"
  walk_at "u"
  refine T_range2 ?_
  refine ⟨[.int 1], IterV_rng (by decide) (by decide) (by decide) (by decide), ?_⟩
  refine GF.cons (by assumption) ?_
  walk_at "u"
  have e1 : ((p : Int) + 1).toNat = p + 1 := by lia
  refine Sub_b (by lia) (by rw [e1]; exact hp2) hz ?_
  walk_at "u"
  refine O_mul (.of_left (by decide)) ?_
  walk_at "u"
  refine Sub_b (by lia) (by rw [e1]; exact hp2) hz ?_
  walk_at "u"
  refine GF.nil (by assumption) ?_
  walk_at "u"
  exact q

/-- octets that stand for a text at p: an ASCII sign, or the two octets of e-acute -/
noncomputable def enc1 (k : Nat) : List Nat := if k = 233 then [195, 169] else [k]
noncomputable def okSign (k : Nat) : Prop := k < 128 ∨ k = 233

theorem sign_at_ {x pre post : List Nat} {k : Nat} (hx : x = pre ++ (enc1 k ++ post)) (hk : okSign k) (hz : x.length ≤ 4096) (ok : Ok A (n + 3)) (q : Q (.tup [.int k, .int (enc1 k).length]) rest) :
    Cal c A rest 24 [.str utf8, .bytes x, .int pre.length] Q := by
  refine Cal_of (pass := []) (ps := [Str.ofString "charset", Str.ofString "octets", Str.ofString "at"]) (others := []) ok (Nat.le_refl _) (fun pm code doc L a ok' => ?_) (by walk_at "bind")
  walk_at "start"
  have hA := ok'.handled
  walk_at "u"
  rcases hk with hk | rfl
  · have e : enc1 k = [k] := if_neg (by lia)
    rw [e] at hx q
    refine utf8_sign_a (p := pre.length) (k := k) (n := n) (by rw [hx]; simp) hk hz (ok'.le (by lia)) ?_
    walk_at "u"
    exact q
  · have e : enc1 233 = [195, 169] := rfl
    rw [e] at hx q
    refine utf8_sign_e (p := pre.length) (n := n) (by rw [hx]; simp) (by rw [hx]; simp) hz (ok'.le (by lia)) ?_
    walk_at "u"
    exact q
end

/-! ## V7 -/
section
variable {c : Cx} {A : Around} {n : Nat} {rest : Cs} {Q : V → Cs → Prop}

noncomputable def enc (t : List Nat) : List Nat := t.flatMap enc1
theorem enc1_pos (k : Nat) : 0 < (enc1 k).length := by unfold enc1; split <;> simp
theorem enc_app (a b : List Nat) : enc (a ++ b) = enc a ++ enc b := by simp [enc]
theorem enc_cons (k : Nat) (b : List Nat) : enc (k :: b) = enc1 k ++ enc b := by simp [enc]
theorem enc_len (t : List Nat) : t.length ≤ (enc t).length := by
  induction t with
  | nil => simp
  | cons k t ih => rw [enc_cons]; have := enc1_pos k; simp; lia

theorem strict_text_ {t : List Nat} (ht : ∀ k ∈ t, okSign k) (hz : (enc t).length ≤ 4096) (ok : Ok A (n + 4)) (q : Q (.str t) rest) : Cal c A rest 26 [.str utf8, .bytes (enc t)] Q := by
  refine Cal_of (pass := []) (ps := [Str.ofString "charset", Str.ofString "octets"]) (others := [Str.ofString "signs", Str.ofString "at", Str.ofString "code", Str.ofString "length"]) ok (Nat.le_refl _) (fun pm code doc L a ok' => ?_) (by walk_at "bind")
  walk_at "start"
  have hA := ok'.handled
  walk_at "u"
  refine need_charset_ (n := n + 2) (ok'.le (by lia)) ?_
  walk_at "u"
  intro S
  walk_at "u"
  walk_at "while"
  have htl := enc_len t
  refine GW_inv (fun m cs => ∃ don rst o1 o2, t = don ++ rst ∧ m = rst.length ∧ cs = [(S, .list ((don.map fun k => [k]).map V.str)), (L, .frame [(Str.ofString "charset", some (.str utf8)), (Str.ofString "octets", some (.bytes (enc t))),
    (Str.ofString "signs", some (.ref S)), (Str.ofString "at", some (.int (enc don).length)), (Str.ofString "code", o1), (Str.ofString "length", o2)])]) ?_ _ _ ⟨[], t, _, _, rfl, rfl, rfl⟩
  rintro m _ ⟨don, rst, o1, o2, hd, rfl, rfl⟩
  have hlen : (enc t).length = (enc don).length + (enc rst).length := by rw [hd, enc_app]; simp
  have hl2 : t.length = don.length + rst.length := by rw [hd]; simp
  walk_at "u"
  cases rst with
  | nil =>
    simp only [enc, List.flatMap_nil, List.length_nil, Nat.add_zero] at hlen
    refine Ite_df (by simp only [enc]; lia) ?_
    walk_at "u"
    refine MethV_of PySem.F.plainAttrs_str PySem.F.slot_str_join PySem.F.type_str_join OfT_str ?_
    walk_at "u"
    refine M_joinS (ns := don.map fun k => [k]) (IsL_c (by walk_at "at")) (by rw [sum1]; simp; simp at hl2; lia) ?_
    walk_at "u"
    rw [flat1]
    simp at hd
    subst hd
    exact q
  | cons k rst =>
    have hp := enc1_pos k
    have hk : okSign k := ht k (by rw [hd]; simp)
    rw [enc_cons] at hlen
    simp only [List.length_append] at hlen
    refine Ite_dt (by lia) ?_
    walk_at "u"
    refine sign_at_ (pre := enc don) (post := enc rst) (k := k) (n := n) (by rw [hd, enc_app, enc_cons]) hk hz (ok'.le (by lia)) ?_
    walk_at "u"
    walk_at "append"
    walk_at "u"
    refine B_chr (by lia) (by rcases hk with hk | hk <;> lia) ?_
    walk_at "u"
    refine M_append (by walk_at "upd") (by simp at hl2 ⊢; lia) ?_
    walk_at "u"
    refine ⟨rst.length, by simp, don ++ [k], rst, some (.int k), some (.int (enc1 k).length), by rw [hd]; simp, rfl, ?_⟩
    rw [enc_app]
    simp [enc]
end

/-! ## V8 -/
section
variable {c : Cx} {A : Around} {n : Nat} {rest : Cs} {Q : V → Cs → Prop}

/-- for at in range(n) -/
theorem rng_ex {env : Env} {cs : Cs} {target : Expr} {body : List Stmt} {QF : VF → Cs → Prop} (hA : A.handled = none) {N : Nat} {i : Int} (hi : i = N) (hN : N ≤ 100000) (I : Nat → Cs → Prop)
    (step : ∀ j, j < N → ∀ cs, I j cs → Asg c A cs target env (.int j) fun _ cs1 => GS c A cs1 (execs body env) (LoopK (fun cs2 => I (j + 1) cs2) QF))
    (fin : ∀ cs, I N cs → QF .next cs) (h0 : I 0 cs) : ∃ l, IterV c (.rng 0 i) l ∧ GF c A target body [] env l cs QF := by
  subst hi
  refine ⟨_, IterV_rng (by lia) (by lia) (by lia) (by lia), ?_⟩
  have e : (((N : Int) - 0).toNat) = N := by lia
  rw [e]
  refine GF_inv hA (fun (i : Nat) => V.int (0 + i)) (fun don cs => I don.length cs) (List.range N) ?_ (fun cs h => fin cs (by rw [List.length_range] at h; exact h)) cs h0
  intro don a rst hx cs1 h
  have hlen := congrArg List.length hx
  simp at hlen
  have ha : a = don.length := by
    have h1 : (List.range N)[don.length]? = some a := by rw [hx]; simp
    rw [List.getElem?_range (by lia)] at h1
    exact (Option.some.inj h1).symm
  subst ha
  have := step don.length (by lia) cs1 h
  rw [show (0 + (don.length : Int)) = (don.length : Int) by lia]
  simp only [List.length_append, List.length_cons, List.length_nil]
  exact this

theorem text_in_ {t : List Nat} (ht : ∀ k ∈ t, okSign k) (hz : (enc t).length ≤ 4096) (ok : Ok A (n + 4)) (q : Q (.str t) rest) : Cal c A rest 25 [.str utf8, .bytes (enc t)] Q := by
  refine Cal_of (pass := []) (ps := [Str.ofString "charset", Str.ofString "octets"]) (others := [Str.ofString "signs", Str.ofString "at", Str.ofString "code", Str.ofString "length"]) ok (Nat.le_refl _) (fun pm code doc L a ok' => ?_) (by walk_at "bind")
  walk_at "start"
  have hA := ok'.handled
  walk_at "u"
  refine need_charset_ (n := n + 2) (ok'.le (by lia)) ?_
  walk_at "u"
  intro S
  walk_at "u"
  walk_at "while"
  have htl := enc_len t
  refine GW_inv (fun m cs => ∃ don rst o1 o2, t = don ++ rst ∧ m = rst.length ∧ cs = [(S, .list ((don.map fun k => [k]).map V.str)), (L, .frame [(Str.ofString "charset", some (.str utf8)), (Str.ofString "octets", some (.bytes (enc t))),
    (Str.ofString "signs", some (.ref S)), (Str.ofString "at", some (.int (enc don).length)), (Str.ofString "code", o1), (Str.ofString "length", o2)])]) ?_ _ _ ⟨[], t, _, _, rfl, rfl, rfl⟩
  rintro m _ ⟨don, rst, o1, o2, hd, rfl, rfl⟩
  have hlen : (enc t).length = (enc don).length + (enc rst).length := by rw [hd, enc_app]; simp
  have hl2 : t.length = don.length + rst.length := by rw [hd]; simp
  walk_at "u"
  cases rst with
  | nil =>
    simp only [enc, List.flatMap_nil, List.length_nil, Nat.add_zero] at hlen
    refine Ite_df (by simp only [enc]; lia) ?_
    walk_at "u"
    refine MethV_of PySem.F.plainAttrs_str PySem.F.slot_str_join PySem.F.type_str_join OfT_str ?_
    walk_at "u"
    refine M_joinS (ns := don.map fun k => [k]) (IsL_c (by walk_at "at")) (by rw [sum1]; simp; simp at hl2; lia) ?_
    walk_at "u"
    rw [flat1]
    simp at hd
    subst hd
    exact q
  | cons k rst =>
    have hp := enc1_pos k
    have hk : okSign k := ht k (by rw [hd]; simp)
    rw [enc_cons] at hlen
    simp only [List.length_append] at hlen
    refine Ite_dt (by lia) ?_
    walk_at "u"
    refine sign_at_ (pre := enc don) (post := enc rst) (k := k) (n := n) (by rw [hd, enc_app, enc_cons]) hk hz (ok'.le (by lia)) ?_
    walk_at "u"
    walk_at "append"
    walk_at "u"
    refine B_chr (by lia) (by rcases hk with hk | hk <;> lia) ?_
    walk_at "u"
    refine M_append (by walk_at "upd") (by simp at hl2 ⊢; lia) ?_
    walk_at "u"
    refine ⟨rst.length, by simp, don ++ [k], rst, some (.int k), some (.int (enc1 k).length), by rw [hd]; simp, rfl, ?_⟩
    rw [enc_app]
    simp [enc]

theorem guessed_text_ {t : List Nat} (ht : ∀ k ∈ t, okSign k) (hz : (enc t).length ≤ 4096) (ok : Ok A (n + 5)) (q : Q (.str t) rest) : Cal c A rest 27 [.bytes (enc t)] Q := by
  refine Cal_of (pass := []) (ps := [Str.ofString "octets"]) (others := []) ok (Nat.le_refl _) (fun pm code doc L a ok' => ?_) (by walk_at "bind")
  walk_at "start"
  have hA := ok'.handled
  walk_at "u"
  refine S_Try ?_
  walk_at "u"
  refine strict_text_ (n := n) ht hz (ok'.le (by lia)) ?_
  walk_at "u"
  exact q

theorem has_sign_ {k : Nat} (hk : k < 2048) (ok : Ok A (n + 2)) (q : Q (.bool true) rest) : Cal c A rest 28 [.str utf8, .int k] Q := by
  refine Cal_of (pass := []) (ps := [Str.ofString "charset", Str.ofString "code"]) (others := []) ok (Nat.le_refl _) (fun pm code doc L a ok' => ?_) (by walk_at "bind")
  walk_at "start"
  have hA := ok'.handled
  walk_at "u"
  refine utf8_length_ (n := n) hk (ok'.le (by lia)) ?_
  walk_at "u"
  refine qB q ?_
  rw [decide_eq_true_iff]
  split <;> decide

theorem octets_in_ {t : List Nat} (ht : ∀ k ∈ t, okSign k) (hz : (enc t).length ≤ 4096) (ok : Ok A (n + 4)) (q : Q (.bytes (enc t)) rest) : Cal c A rest 29 [.str utf8, .str t] Q := by
  refine Cal_of (pass := []) (ps := [Str.ofString "charset", Str.ofString "text"]) (others := [Str.ofString "row", Str.ofString "at", Str.ofString "code"]) ok (Nat.le_refl _) (fun pm code doc L a ok' => ?_) (by walk_at "bind")
  walk_at "start"
  have hA := ok'.handled
  have htl := enc_len t
  walk_at "u"
  refine need_charset_ (n := n + 2) (ok'.le (by lia)) ?_
  walk_at "u"
  intro S
  walk_at "u"
  walk_at "for"
  walk_at "u"
  refine T_range1 ?_
  refine rng_ex hA rfl (by lia) (fun j cs => ∃ o1 o2, cs = [(S, .list ((enc (t.take j)).map fun (k : Nat) => V.int k)), (L, .frame [(Str.ofString "charset", some (.str utf8)), (Str.ofString "text", some (.str t)),
    (Str.ofString "row", some (.ref S)), (Str.ofString "at", o1), (Str.ofString "code", o2)])]) ?_ ?_ ⟨_, _, rfl⟩
  · rintro j hj _ ⟨o1, o2, rfl⟩
    have hk : okSign t[j] := ht _ (List.getElem_mem hj)
    have htk : t.take (j + 1) = t.take j ++ [t[j]] := by rw [List.take_add_one, List.getElem?_eq_getElem hj]; rfl
    have hle : (enc (t.take (j + 1))).length ≤ (enc t).length := by
      have : enc t = enc (t.take (j + 1)) ++ enc (t.drop (j + 1)) := by rw [← enc_app, List.take_append_drop]
      rw [this]; simp
    rw [htk, enc_app, List.length_append] at hle
    have he : enc [t[j]] = enc1 t[j] := by simp [enc]
    rw [he] at hle
    walk_at "u"
    refine Sub_s (k := t[j]) (by lia) (by simp [hj]) (by lia) ?_
    walk_at "u"
    refine has_sign_ (n := n) (by rcases hk with hk | hk <;> lia) (ok'.le (by lia)) ?_
    walk_at "u"
    refine MethV_of PySem.F.plainAttrs_list PySem.F.slot_list_extend PySem.F.type_list_extend (OfT_rlist (by walk_at "at")) ?_
    walk_at "u"
    rcases hk with hk | hk
    · have e : enc1 t[j] = [t[j]] := if_neg (by lia)
      refine utf8_octets_a (n := n) hk (ok'.le (by lia)) ?_
      walk_at "u"
      refine M_extend IsL_f (by walk_at "upd") (by simp; rw [e] at hle; simp at hle; lia) ?_
      walk_at "u"
      exact ⟨some (.int j), some (.int t[j]), by rw [htk, enc_app, he, e]; simp⟩
    · have e : enc1 t[j] = [195, 169] := if_pos hk
      rw [hk]
      refine utf8_octets_e (n := n) (ok'.le (by lia)) ?_
      walk_at "u"
      refine M_extend IsL_f (by walk_at "upd") (by simp; rw [e] at hle; simp at hle; lia) ?_
      walk_at "u"
      exact ⟨some (.int j), some (.int 233), by rw [htk, enc_app, he, e]; simp⟩
  · rintro _ ⟨o1, o2, rfl⟩
    walk_at "u"
    refine T_bytes (ns := enc t) hA ?_ ?_ (by lia) ?_
    · rw [List.take_of_length_le (Nat.le_refl _)]
      exact IsL_c (by walk_at "at")
    · intro k hk
      obtain ⟨s, hs, hk⟩ := List.mem_flatMap.mp hk
      rcases ht s hs with h | h
      · rw [show enc1 s = [s] from if_neg (by lia)] at hk; simp at hk; lia
      · rw [show enc1 s = [195, 169] from if_pos h] at hk; simp at hk; lia
    · walk_at "u"
      exact q
end

/-! ## V9 -/
section
variable {c : Cx} {A : Around} {n : Nat} {rest : Cs} {Q : V → Cs → Prop}

noncomputable def esc (s : Nat) : List Nat := if s = 34 ∨ s = 92 then [92, s] else [s]
noncomputable def okPlain (s : Nat) : Prop := s < 128 ∧ s ≠ 0 ∧ s ≠ 10 ∧ s ≠ 13
theorem esc_pos (s : Nat) : 0 < (esc s).length := by unfold esc; split <;> simp
theorem esc_le (s : Nat) : (esc s).length ≤ 2 := by unfold esc; split <;> simp

theorem escaped_octets_ {s : Nat} (hs : okPlain s) (ok : Ok A (n + 1)) (q : Q (.bytes (esc s)) rest) : Cal c A rest 37 [.bytes [s], .bytes [34, 92]] Q := by
  refine Cal_of (pass := []) (ps := [Str.ofString "octets", Str.ofString "signs"]) (others := [Str.ofString "parts", Str.ofString "at"]) ok (Nat.le_refl _) (fun pm code doc L a ok' => ?_) (by walk_at "bind")
  obtain ⟨h0, h1, h2, h3⟩ := hs
  walk_at "start"
  have hA := ok'.handled
  walk_at "u"
  intro S
  walk_at "u"
  walk_at "for"
  walk_at "u"
  refine T_range1 ?_
  refine ⟨[.int 0], IterV_rng (hi := 1) (by decide) (by decide) (by decide) (by decide), ?_⟩
  refine GF.cons (by assumption) ?_
  walk_at "u"
  refine Sub_b (k := s) (by decide) rfl (by simp) ?_
  walk_at "u"
  refine C_inT (ns := [0, 10, 13]) ?_
  refine Ite_df (by simp; lia) ?_
  walk_at "u"
  refine Sub_b (k := s) (by decide) rfl (by simp) ?_
  walk_at "u"
  refine C_inB (by lia) (by lia) ?_
  walk_at "ite"
  · rename_i h
    have e : esc s = [92, s] := if_pos (by simpa using h)
    rw [e] at q
    walk_at "u"
    walk_at "append"
    walk_at "u"
    refine M_append (by walk_at "upd") (by decide) ?_
    walk_at "u"
    walk_at "append"
    walk_at "u"
    refine Cut_bytes (by simp [okPart]) (by simp [okPart]) (by simp) ?_
    refine M_append (by walk_at "upd") (by decide) ?_
    walk_at "u"
    refine GF.nil (by assumption) ?_
    walk_at "u"
    refine MethV_of PySem.W.FB.plainAttrs_bytes byte_slot_join byte_type_join OfT_bytes ?_
    walk_at "u"
    refine M_joinBL (l := [[92], [s]]) (IsL_c (by walk_at "atx")) (by simp [bs]) ?_
    walk_at "u"
    exact q
  · rename_i h
    have e : esc s = [s] := if_neg (by simpa using h)
    rw [e] at q
    walk_at "u"
    walk_at "append"
    walk_at "u"
    refine Cut_bytes (by simp [okPart]) (by simp [okPart]) (by simp) ?_
    refine M_append (by walk_at "upd") (by decide) ?_
    walk_at "u"
    refine GF.nil (by assumption) ?_
    walk_at "u"
    refine MethV_of PySem.W.FB.plainAttrs_bytes byte_slot_join byte_type_join OfT_bytes ?_
    walk_at "u"
    refine M_joinBL (l := [[s]]) (IsL_c (by walk_at "atx")) (by simp [bs]) ?_
    walk_at "u"
    exact q
end

/-! ## V10 -/
section
variable {c : Cx} {A : Around} {n : Nat} {rest cs cs3 r : Cs} {Q : V → Cs → Prop} {d : Addr} {x : List Nat} {p : Nat}

/-- what stands at p -/
noncomputable def peekN (x : List Nat) (p : Nat) : Int := match x[p]? with | some k => k | none => -1

theorem is_done_ (ok : Ok A (n + 1)) (t : Tup d (cur x p x.length) (cur x p x.length) cs r cs3) (q : Q (.bool (decide (x.length ≤ p))) cs3) : Cal c A cs 101 [.inst d] Q := by
  refine Cal_tup t ?_
  refine Cal_of (pass := [(d, cur x p x.length)]) (ps := [Str.ofString "self"]) (others := []) ok (Nat.le_refl _) (fun pm code doc L a ok' => ?_) (by walk_at "bind")
  walk_at "start"
  have hA := ok'.handled
  walk_at "u"
  refine ⟨rfl, ?_⟩
  refine qB q ?_
  rw [Bool.eq_iff_iff, decide_eq_true_iff, decide_eq_true_iff]; lia

theorem peek_ (ok : Ok A (n + 1)) (hz : x.length ≤ 4096) (t : Tup d (cur x p x.length) (cur x p x.length) cs r cs3) (q : Q (.int (peekN x p)) cs3) : Cal c A cs 102 [.inst d] Q := by
  refine Cal_tup t (CalC.cal ?_)
  refine Cal_ofM (pass := [(d, cur x p x.length)]) (ps := [Str.ofString "self", Str.ofString "ahead"]) (others := [Str.ofString "place"]) [.int 0] rfl ok (Nat.le_refl _) (fun pm code doc L a ok' => ?_) ?_
  · walk_at "start"
    have hA := ok'.handled
    unfold peekN at q
    have e1 : ((p : Int) + 0).toNat = p := by lia
    by_cases h : p < x.length
    · rw [List.getElem?_eq_getElem h] at q
      walk_at "u"
      refine Sub_b (k := x[p]) (by lia) (by rw [e1]; exact List.getElem?_eq_getElem h) hz ?_
      walk_at "u"
      exact ⟨rfl, q⟩
    · rw [List.getElem?_eq_none (by lia)] at q
      walk_at "u"
      exact ⟨rfl, q⟩
  · intro pm code doc T vs items h1 h2
    rcases vs with _ | ⟨v1, _ | ⟨v2, vs⟩⟩ <;> first | (simp at h1; done) | skip
    rcases items with _ | ⟨w1, _ | ⟨w2, items⟩⟩ <;> first | (simp at h2; done) | skip
    exact ⟨_, rfl, rfl⟩

theorem take_ {k : Nat} (hp : x[p]? = some k) (ok : Ok A (n + 2)) (hz : x.length ≤ 4096) (t : Tup d (cur x p x.length) (cur x (p + 1 : Nat) x.length) cs r cs3) (q : Q (.int k) cs3) : Cal c A cs 103 [.inst d] Q := by
  refine Cal_tup t ?_
  refine Cal_of (pass := [(d, cur x p x.length)]) (ps := [Str.ofString "self"]) (others := [Str.ofString "code"]) ok (Nat.le_refl _) (fun pm code doc L a ok' => ?_) (by walk_at "bind")
  walk_at "start"
  have hA := ok'.handled
  walk_at "u"
  refine peek_ (n := n) (ok'.le (by lia)) hz (by walk_at "tup") ?_
  unfold peekN
  rw [hp]
  dsimp only
  walk_at "u"
  exact ⟨rfl, q⟩

theorem init_ (ok : Ok A (n + 1)) (hz : x.length ≤ 4096) (q : Q .none ((d, cur x (0 : Nat) x.length) :: rest)) : CalC c A ((d, .sd []) :: rest) 100 [.inst d, .bytes x] Q := by
  refine Cal_ofM (pass := [(d, .sd [])]) (ps := [Str.ofString "self", Str.ofString "data", Str.ofString "at", Str.ofString "end"]) (others := []) [.int 0, .int (-1)] rfl ok (Nat.le_refl _) (fun pm code doc L a ok' => ?_) ?_
  · walk_at "start"
    have hA := ok'.handled
    walk_at "u"
    refine SA_inst (by walk_at "upd") (by simp) ?_
    unfold putS
    walk_at "u"
    refine SA_inst (by walk_at "upd") (by simp) ?_
    unfold putS
    rw [if_neg ne_at_data]
    unfold putS
    walk_at "u"
    refine SA_inst (by walk_at "upd") (by simp) ?_
    unfold putS
    rw [if_neg ne_data_end]
    unfold putS
    rw [if_neg ne_at_end.symm]
    unfold putS
    walk_at "u"
    exact q
  · intro pm code doc T vs items h1 h2
    rcases vs with _ | ⟨v1, _ | ⟨v2, _ | ⟨v3, vs⟩⟩⟩ <;> first | (simp at h1; done) | skip
    rcases items with _ | ⟨w1, _ | ⟨w2, _ | ⟨w3, items⟩⟩⟩ <;> first | (simp at h2; done) | skip
    exact ⟨_, rfl, rfl⟩
end

/-! ## V11 -/
section
variable {c : Cx} {A : Around} {n : Nat} {rest cs cs3 r : Cs} {Q : V → Cs → Prop} {d : Addr} {x : List Nat} {p : Nat}

noncomputable def stops (i : Int) : Prop := i ≠ 9 ∧ i ≠ 10 ∧ i ≠ 13 ∧ i ≠ 32 ∧ i ≠ 40
theorem peekN_some {k : Nat} (h : x[p]? = some k) : peekN x p = k := by unfold peekN; rw [h]
theorem peekN_none (h : x.length ≤ p) : peekN x p = -1 := by unfold peekN; rw [List.getElem?_eq_none h]

theorem skip_between_ {m : Nat} (hb : ∀ j, j < m → x[p + j]? = some 32) (hs : stops (peekN x (p + m))) (ok : Ok A (n + 3)) (hz : x.length ≤ 4096)
    (t : Tup d (cur x p x.length) (cur x (p + m : Nat) x.length) cs r cs3) (q : Q .none cs3) : Cal c A cs 53 [.inst d] Q := by
  refine Cal_tup t ?_
  refine Cal_of (pass := [(d, cur x p x.length)]) (ps := [Str.ofString "cursor"]) (others := []) ok (Nat.le_refl _) (fun pm code doc L a ok' => ?_) (by walk_at "bind")
  walk_at "start"
  have hA := ok'.handled
  obtain ⟨s1, s2, s3, s4, s5⟩ := hs
  walk_at "u"
  walk_at "while"
  refine GW_inv (fun k cs => ∃ j, j + k = m ∧ cs = [(L, .frame [(Str.ofString "cursor", some (V.inst d))]), (d, cur x (p + j : Nat) x.length)]) ?_ m _ ⟨0, by lia, rfl⟩
  rintro k _ ⟨j, hj, rfl⟩
  walk_at "u"
  refine is_done_ (n := n) (ok'.le (by lia)) (by walk_at "tup") ?_
  walk_at "u"
  by_cases hl : x.length ≤ p + j
  · refine Ite_dt hl ?_
    walk_at "u"
    have : j = m := by
      rcases Nat.lt_or_ge j m with h | h
      · have := hb j h; rw [List.getElem?_eq_none (by lia)] at this; cases this
      · lia
    subst this
    walk_at "u"
    exact ⟨rfl, q⟩
  · refine Ite_df hl ?_
    walk_at "u"
    refine peek_ (n := n) (ok'.le (by lia)) hz (by walk_at "tup") ?_
    walk_at "u"
    refine C_inT (ns := [9, 10, 13, 32]) ?_
    rcases Nat.lt_or_ge j m with h | h
    · rw [peekN_some (hb j h)]
      refine Ite_dt (by decide) ?_
      walk_at "u"
      refine take_ (n := n) (hb j h) (ok'.le (by lia)) hz (by walk_at "tup") ?_
      walk_at "u"
      exact ⟨k - 1, by lia, j + 1, by lia, by rw [Nat.add_assoc]⟩
    · have : j = m := by lia
      subst this
      refine Ite_df (by simp; lia) ?_
      walk_at "u"
      refine peek_ (n := n) (ok'.le (by lia)) hz (by walk_at "tup") ?_
      walk_at "u"
      exact ⟨rfl, q⟩

theorem cut_mid {pre t post : List Nat} (hx : x = pre ++ (t ++ post)) (hp : p = pre.length) : cutL x (some (p : Int)) (some ((p + t.length : Nat) : Int)) = t := by
  subst hx hp
  show ((pre ++ (t ++ post)).drop pre.length).take (pre.length + t.length - pre.length) = t
  rw [Nat.add_sub_cancel_left, List.drop_left, List.take_left]

theorem take_token_ {pre tok post : List Nat} (hx : x = pre ++ (tok ++ post)) (hp : p = pre.length) (ht : ∀ k ∈ tok, isTok k = true) (hne : tok ≠ []) (hs : isTok (peekN x (p + tok.length)) = false)
    (ok : Ok A (n + 3)) (hz : x.length ≤ 4096) (t : Tup d (cur x p x.length) (cur x (p + tok.length : Nat) x.length) cs r cs3) (q : Q (.bytes tok) cs3) : Cal c A cs 54 [.inst d] Q := by
  refine Cal_tup t ?_
  refine Cal_of (pass := [(d, cur x p x.length)]) (ps := [Str.ofString "cursor"]) (others := [Str.ofString "first"]) ok (Nat.le_refl _) (fun pm code doc L a ok' => ?_) (by walk_at "bind")
  walk_at "start"
  have hA := ok'.handled
  have hl : 0 < tok.length := List.length_pos_iff.mpr hne
  walk_at "u"
  walk_at "while"
  refine GW_inv (fun k cs => ∃ j, j + k = tok.length ∧ cs = [(L, .frame [(Str.ofString "cursor", some (V.inst d)), (Str.ofString "first", some (V.int p))]), (d, cur x (p + j : Nat) x.length)]) ?_ tok.length _ ⟨0, by lia, rfl⟩
  rintro k _ ⟨j, hj, rfl⟩
  walk_at "u"
  refine peek_ (n := n) (ok'.le (by lia)) hz (by walk_at "tup") ?_
  walk_at "u"
  refine is_token_code_ (n := n) (ok'.le (by lia)) ?_
  walk_at "u"
  rcases Nat.lt_or_ge j tok.length with h | h
  · have hk : x[p + j]? = some tok[j] := by subst hx hp; simp [List.getElem?_append, h]
    rw [peekN_some hk, ht _ (List.getElem_mem h)]
    walk_at "u"
    refine take_ (n := n) hk (ok'.le (by lia)) hz (by walk_at "tup") ?_
    walk_at "u"
    exact ⟨k - 1, by lia, j + 1, by lia, by rw [Nat.add_assoc]⟩
  · have : j = tok.length := by lia
    subst this
    rw [hs]
    walk_at "u"
    refine Cut_bytes (by simp [okPart]) (by simp [okPart]; lia) (by lia) ?_
    walk_at "u"
    rw [cut_mid hx hp]
    exact ⟨rfl, q⟩
end

/-! ## V12 -/
section
variable {c : Cx} {A : Around} {n : Nat} {rest cs cs3 r : Cs} {Q : V → Cs → Prop} {d : Addr} {x : List Nat} {p : Nat}

theorem cutN {i j : Nat} {u v : Int} (hu : u = i) (hv : v = j) : cutL x (some u) (some v) = (x.drop i).take (j - i) := by
  subst hu hv
  show (x.drop (i : Int).toNat).take ((j : Int).toNat - (i : Int).toNat) = _
  rw [show (i : Int).toNat = i by lia, show (j : Int).toNat = j by lia]
theorem drop_at {k : Nat} (h : x[p]? = some k) : x.drop p = k :: x.drop (p + 1) := by
  obtain ⟨h1, h2⟩ := List.getElem?_eq_some_iff.mp h
  rw [List.drop_eq_getElem_cons h1, h2]
theorem cut1 {k : Nat} {u v : Int} (hu : u = p) (hv : v = (p + 1 : Nat)) (h : x[p]? = some k) : cutL x (some u) (some v) = [k] := by
  rw [cutN hu hv, drop_at h, show p + 1 - p = 1 by lia]; rfl

theorem line_end_ {k : Nat} (hp : x[p]? = some k) (h0 : k ≠ 10) (h1 : k ≠ 13) (hz : x.length ≤ 4096) (ok : Ok A (n + 1)) (q : Q (.int (-1)) rest) : Cal c A rest 33 [.bytes x, .int p] Q := by
  refine Cal_of (pass := []) (ps := [Str.ofString "data", Str.ofString "at"]) (others := []) ok (Nat.le_refl _) (fun pm code doc L a ok' => ?_) (by walk_at "bind")
  walk_at "start"
  have hA := ok'.handled
  walk_at "u"
  refine Cut_bytes (by simp [okPart]) (by simp [okPart]; lia) (by lia) ?_
  rw [cut1 rfl (by lia) hp]
  walk_at "u"
  refine Ite_df (by simp [bs]; lia) ?_
  walk_at "u"
  refine Cut_bytes (by simp [okPart]) (by simp [okPart]; lia) (by lia) ?_
  rw [cutN (i := p) (j := p + 2) rfl (by lia), drop_at hp, show p + 2 - p = 2 by lia]
  walk_at "u"
  refine Ite_df (by simp [bs]; lia) ?_
  walk_at "u"
  exact q

theorem inside_at_ {pre post : List Nat} {s : Nat} {b : V} (hx : x = pre ++ (esc s ++ post)) (hp : p = pre.length) (hs : okPlain s) (hpost : post ≠ []) (hz : x.length ≤ 4096) (ok : Ok A (n + 2))
    (q : Q (.tup [.bytes [s], .int (p + (esc s).length : Nat)]) rest) : Cal c A rest 34 [.bytes x, .int p, b] Q := by
  refine Cal_of (pass := []) (ps := [Str.ofString "data", Str.ofString "at", Str.ofString "begun"]) (others := [Str.ofString "behind"]) ok (Nat.le_refl _) (fun pm code doc L a ok' => ?_) (by walk_at "bind")
  walk_at "start"
  have hA := ok'.handled
  obtain ⟨h0, h1, h2, h3⟩ := hs
  have hpl : 0 < post.length := List.length_pos_iff.mpr hpost
  by_cases hq : s = 34 ∨ s = 92
  · have e : esc s = [92, s] := if_pos hq
    rw [e] at hx q
    have hlen : x.length = p + 2 + post.length := by rw [hx, hp]; simp; lia
    have k0 : x[p]? = some 92 := by rw [hx, hp]; simp
    have k1 : x[p + 1]? = some s := by rw [hx, hp]; simp
    walk_at "u"
    refine Sub_b (by lia) k0 hz ?_
    walk_at "u"
    refine Sub_b (by lia) k0 hz ?_
    walk_at "u"
    refine Sub_b (k := s) (by lia) (by rw [show ((p : Int) + 1).toNat = p + 1 by lia]; exact k1) hz ?_
    walk_at "u"
    refine C_inT (ns := [0, 10, 13]) ?_
    refine Ite_df (by simp; lia) ?_
    walk_at "u"
    refine Cut_bytes (by simp [okPart]; lia) (by simp [okPart]; lia) (by lia) ?_
    rw [cut1 (p := p + 1) (by lia) (by lia) k1]
    walk_at "u"
    exact q
  · have e : esc s = [s] := if_neg hq
    rw [e] at hx q
    have hlen : x.length = p + 1 + post.length := by rw [hx, hp]; simp; lia
    have k0 : x[p]? = some s := by rw [hx, hp]; simp
    walk_at "u"
    refine Sub_b (by lia) k0 hz ?_
    walk_at "u"
    refine Sub_b (by lia) k0 hz ?_
    walk_at "u"
    refine line_end_ (n := n) k0 h2 h3 hz (ok'.le (by lia)) ?_
    walk_at "u"
    refine Sub_b (by lia) k0 hz ?_
    walk_at "u"
    refine C_inT (ns := [0, 10, 13]) ?_
    refine Ite_df (by simp; lia) ?_
    walk_at "u"
    refine Cut_bytes (by simp [okPart]) (by simp [okPart]; lia) (by lia) ?_
    rw [cut1 rfl (by lia) k0]
    walk_at "u"
    exact q
end

/-! ## V13 -/
section
variable {c : Cx} {A : Around} {n : Nat} {rest cs cs3 r : Cs} {Q : V → Cs → Prop} {d : Addr} {x : List Nat} {p : Nat}

theorem sumB (l : List Nat) : ((l.map fun s => [s]).map List.length).sum = l.length := sum1 l
theorem joinN_nil (l : List (List Nat)) : joinN [] l = l.flatten := by
  cases l with
  | nil => rfl
  | cons a l => rw [joinN_cons]; simp [List.flatMap]
theorem closed_at_ {pre post ss : List Nat} (hx : x = pre ++ (34 :: (ss.flatMap esc ++ 34 :: post))) (hp : p = pre.length) (hs : ∀ s ∈ ss, okPlain s) (hz : x.length ≤ 4096) (ok : Ok A (n + 3))
    (q : Q (.tup [.bytes ss, .int (p + 2 + (ss.flatMap esc).length : Nat)]) rest) : Cal c A rest 35 [.bytes x, .int p, .bytes [34], .bytes []] Q := by
  refine Cal_of (pass := []) (ps := [Str.ofString "data", Str.ofString "begun", Str.ofString "closing", Str.ofString "barred"]) (others := [Str.ofString "parts", Str.ofString "at", Str.ofString "octets"]) ok (Nat.le_refl _) (fun pm code doc L a ok' => ?_) (by walk_at "bind")
  walk_at "start"
  have hA := ok'.handled
  walk_at "u"
  intro S
  walk_at "u"
  walk_at "while"
  have hsl : ss.length ≤ (ss.flatMap esc).length := by
    clear hs hx q
    induction ss with
    | nil => simp
    | cons s ss ih => have := esc_pos s; rw [List.flatMap_cons, List.length_append, List.length_cons]; lia
  have hxl : x.length = p + 1 + (ss.flatMap esc).length + 1 + post.length := by rw [hx, hp]; simp; lia
  refine GW_inv (fun k cs => ∃ don rst o, ss = don ++ rst ∧ k = rst.length ∧ cs = [(S, .list ((don.map fun s => [s]).map V.bytes)), (L, .frame [(Str.ofString "data", some (.bytes x)), (Str.ofString "begun", some (.int p)),
    (Str.ofString "closing", some (.bytes [34])), (Str.ofString "barred", some (.bytes [])), (Str.ofString "parts", some (.ref S)), (Str.ofString "at", some (.int (p + 1 + (don.flatMap esc).length : Nat))), (Str.ofString "octets", o)])]) ?_ ss.length _ ⟨[], ss, none, rfl, rfl, by simp⟩
  rintro k _ ⟨don, rst, o, hd, rfl, rfl⟩
  have hfl : (ss.flatMap esc).length = (don.flatMap esc).length + (rst.flatMap esc).length := by rw [hd]; simp
  have hl2 : ss.length = don.length + rst.length := by rw [hd]; simp
  walk_at "u"
  refine Cut_bytes (by simp [okPart]; lia) (by simp [okPart]; lia) (by lia) ?_
  cases rst with
  | nil =>
    have k0 : x[p + 1 + (don.flatMap esc).length]? = some 34 := by
      rw [hx, hp, hd, List.append_nil, List.getElem?_append_right (by lia), show pre.length + 1 + (don.flatMap esc).length - pre.length = (don.flatMap esc).length + 1 by lia, List.getElem?_cons_succ, List.getElem?_append_right (by lia)]
      simp
    rw [cut1 rfl (by lia) k0]
    walk_at "u"
    walk_at "joinB"
    walk_at "u"
    refine M_joinBL (l := don.map fun s => [s]) (IsL_c (by walk_at "at")) (by rw [sumB]; simp [bs] at hl2 ⊢; lia) ?_
    walk_at "u"
    rw [show bs [] = [] from rfl, joinN_nil, flat1]
    simp at hd
    subst hd
    refine qV q ?_
    congr 4
    lia
  | cons s rst =>
    have hok := hs s (by rw [hd]; simp)
    have hep := esc_pos s
    have hpre : x = (pre ++ (34 :: don.flatMap esc)) ++ (esc s ++ (rst.flatMap esc ++ 34 :: post)) := by rw [hx, hd]; simp
    have hpl : p + 1 + (don.flatMap esc).length = (pre ++ (34 :: don.flatMap esc)).length := by rw [hp]; simp; lia
    have k0 : ∃ k, x[p + 1 + (don.flatMap esc).length]? = some k ∧ k ≠ 34 := by
      rw [hpre, hpl, List.getElem?_append_right (Nat.le_refl _), Nat.sub_self]
      unfold esc
      split
      · exact ⟨92, rfl, by decide⟩
      · rename_i h; exact ⟨s, rfl, fun e => h (.inl e)⟩
    obtain ⟨k, k0, k1⟩ := k0
    rw [cut1 rfl (by lia) k0]
    simp only [List.flatMap_cons, List.length_append, List.length_cons] at hfl hl2
    walk_at "u"
    refine Ite_dt (by simp; lia) ?_
    walk_at "u"
    refine Sub_b (by lia) k0 hz ?_
    walk_at "u"
    have hk : k < 256 := by
      rw [hpre, hpl, List.getElem?_append_right (Nat.le_refl _), Nat.sub_self] at k0
      revert k0; unfold esc; split
      · intro e; cases e; decide
      · intro e; cases e; have := hok.1; lia
    refine C_inB (by lia) (by lia) ?_
    refine Ite_df (by simp) ?_
    walk_at "u"
    refine inside_at_ (n := n) hpre hpl hok (by simp) hz (ok'.le (by lia)) ?_
    walk_at "u"
    walk_at "append"
    walk_at "u"
    refine M_append (by walk_at "upd") (by simp; lia) ?_
    walk_at "u"
    refine ⟨rst.length, by simp, don ++ [s], rst, some (.bytes [s]), by rw [hd]; simp, rfl, ?_⟩
    simp only [List.flatMap_append, List.flatMap_cons, List.flatMap_nil, List.append_nil, List.length_append, List.map_append, List.map_cons, List.map_nil, Nat.add_assoc]
end

/-! ## V14 -/
section
variable {c : Cx} {A : Around} {n : Nat} {rest cs cs3 r : Cs} {Q : V → Cs → Prop} {d : Addr} {x : List Nat} {p : Nat}

noncomputable def isWorth (i : Int) : Bool := decide (127 < i) || isTok i
theorem take_worth_t {pre tok post : List Nat} (hx : x = pre ++ (tok ++ post)) (hp : p = pre.length) (ht : ∀ k ∈ tok, isWorth k = true) (hne : tok ≠ []) (hs : isWorth (peekN x (p + tok.length)) = false)
    (ok : Ok A (n + 4)) (hz : x.length ≤ 4096) (t : Tup d (cur x p x.length) (cur x (p + tok.length : Nat) x.length) cs r cs3) (q : Q (.bytes tok) cs3) : Cal c A cs 56 [.inst d] Q := by
  refine Cal_tup t ?_
  refine Cal_of (pass := [(d, cur x p x.length)]) (ps := [Str.ofString "cursor"]) (others := [Str.ofString "worth", Str.ofString "first"]) ok (Nat.le_refl _) (fun pm code doc L a ok' => ?_) (by walk_at "bind")
  walk_at "start"
  have hA := ok'.handled
  have hl : 0 < tok.length := List.length_pos_iff.mpr hne
  walk_at "u"
  refine peek_ (n := n) (ok'.le (by lia)) hz (by walk_at "tup") ?_
  walk_at "u"
  have h34 : ¬ (peekN x p = 34) := by
    intro e
    have hk : x[p]? = some tok[0] := by subst hx hp; rw [List.getElem?_append_right (Nat.le_refl _), Nat.sub_self, List.getElem?_append_left hl, List.getElem?_eq_getElem hl]
    have := ht _ (List.getElem_mem hl)
    rw [peekN_some hk] at e
    rw [e] at this
    exact absurd this (by decide)
  refine Ite_df h34 ?_
  walk_at "u"
  walk_at "while"
  refine GW_inv (fun k cs => ∃ j, j + k = tok.length ∧ cs = [(L, .frame [(Str.ofString "cursor", some (V.inst d)), (Str.ofString "worth", none), (Str.ofString "first", some (V.int p))]), (d, cur x (p + j : Nat) x.length)]) ?_ tok.length _ ⟨0, by lia, rfl⟩
  rintro k _ ⟨j, hj, rfl⟩
  walk_at "u"
  refine peek_ (n := n) (ok'.le (by lia)) hz (by walk_at "tup") ?_
  walk_at "u"
  refine is_worth_code_ (n := n) (ok'.le (by lia)) ?_
  walk_at "u"
  rcases Nat.lt_or_ge j tok.length with h | h
  · have hk : x[p + j]? = some tok[j] := by subst hx hp; simp [List.getElem?_append, h]
    rw [peekN_some hk]
    have hw := ht _ (List.getElem_mem h)
    unfold isWorth at hw
    rw [hw]
    walk_at "u"
    refine take_ (n := n) hk (ok'.le (by lia)) hz (by walk_at "tup") ?_
    walk_at "u"
    exact ⟨k - 1, by lia, j + 1, by lia, by rw [Nat.add_assoc]⟩
  · have : j = tok.length := by lia
    subst this
    unfold isWorth at hs
    rw [hs]
    walk_at "u"
    refine Cut_bytes (by simp [okPart]) (by simp [okPart]; lia) (by lia) ?_
    walk_at "u"
    rw [cut_mid hx hp]
    exact ⟨rfl, q⟩

theorem take_worth_q {pre post ss : List Nat} (hx : x = pre ++ (34 :: (ss.flatMap esc ++ 34 :: post))) (hp : p = pre.length) (hs : ∀ s ∈ ss, okPlain s)
    (ok : Ok A (n + 4)) (hz : x.length ≤ 4096) (t : Tup d (cur x p x.length) (cur x (p + 2 + (ss.flatMap esc).length : Nat) x.length) cs r cs3) (q : Q (.bytes ss) cs3) : Cal c A cs 56 [.inst d] Q := by
  refine Cal_tup t ?_
  refine Cal_of (pass := [(d, cur x p x.length)]) (ps := [Str.ofString "cursor"]) (others := [Str.ofString "worth", Str.ofString "first"]) ok (Nat.le_refl _) (fun pm code doc L a ok' => ?_) (by walk_at "bind")
  walk_at "start"
  have hA := ok'.handled
  walk_at "u"
  refine peek_ (n := n) (ok'.le (by lia)) hz (by walk_at "tup") ?_
  have hk : x[p]? = some 34 := by subst hx hp; simp
  rw [peekN_some hk]
  walk_at "u"
  refine closed_at_ (n := n) hx hp hs hz (ok'.le (by lia)) ?_
  walk_at "u"
  exact ⟨rfl, q⟩
end

/-! ## V15 -/
section
variable {c : Cx} {A : Around} {n : Nat} {rest cs cs3 r : Cs} {Q : V → Cs → Prop} {d : Addr} {x : List Nat} {p : Nat}

/-- the written worth and what it tells -/
inductive TW : List Nat → List Nat → Prop
  | plain (w : List Nat) (h : ∀ k ∈ w, isWorth k = true) (hne : w ≠ []) : TW w w
  | quoted (ts : List Nat) (h : ∀ s ∈ ts, okPlain s) : TW (34 :: (ts.flatMap esc ++ [34])) ts

theorem tok_stops {k : Nat} (h : isTok k = true) : stops k := by
  unfold isTok at h
  simp only [Bool.and_eq_true, decide_eq_true_eq] at h
  obtain ⟨⟨h1, h2⟩, h3⟩ := h
  refine ⟨by lia, by lia, by lia, by lia, fun e => h3 ?_⟩
  rw [e]; decide
theorem tok_ne {k m : Nat} (h : isTok k = true) (hm : m ∈ barred) : k ≠ m := by
  unfold isTok at h
  simp only [Bool.and_eq_true, decide_eq_true_eq] at h
  rintro rfl
  exact h.2 (by simpa using hm)
theorem tok_lt {k : Nat} (h : isTok k = true) : k < 127 := by
  unfold isTok at h
  simp only [Bool.and_eq_true, decide_eq_true_eq] at h
  lia
theorem worth_stops {k : Nat} (h : isWorth k = true) : stops k := by
  unfold isWorth at h
  rw [Bool.or_eq_true] at h
  rcases h with h | h
  · have := of_decide_eq_true h
    refine ⟨?_, ?_, ?_, ?_, ?_⟩ <;> lia
  · exact tok_stops h
theorem TW.head {w v : List Nat} (t : TW w v) : ∃ k r, w = k :: r ∧ stops k := by
  cases t with
  | plain w h hne =>
    cases w with
    | nil => exact absurd rfl hne
    | cons k r => exact ⟨k, r, rfl, worth_stops (h k (by simp))⟩
  | quoted ts h => exact ⟨34, _, rfl, by unfold stops; decide⟩

theorem take_worth_ {pre wr vl post : List Nat} (hx : x = pre ++ (wr ++ post)) (hp : p = pre.length) (tw : TW wr vl) (hs : isWorth (peekN x (p + wr.length)) = false)
    (ok : Ok A (n + 4)) (hz : x.length ≤ 4096) (t : Tup d (cur x p x.length) (cur x (p + wr.length : Nat) x.length) cs r cs3) (q : Q (.bytes vl) cs3) : Cal c A cs 56 [.inst d] Q := by
  cases tw with
  | plain w h hne => exact take_worth_t hx hp h hne hs ok hz t q
  | quoted _ h =>
    have e : p + (34 :: (vl.flatMap esc ++ [34])).length = p + 2 + (vl.flatMap esc).length := by simp; lia
    rw [e] at t
    exact take_worth_q (post := post) (by rw [hx]; simp) hp h ok hz t q

structure Row where
  nm : List Nat
  wr : List Nat
  vl : List Nat
structure Row.Ok (r : Row) : Prop where
  tok : ∀ k ∈ r.nm, isTok k = true
  low : ∀ k ∈ r.nm, lowerN k = k
  ne : r.nm ≠ []
  tw : TW r.wr r.vl
noncomputable def Row.b (r : Row) : List Nat := 59 :: 32 :: (r.nm ++ (61 :: r.wr))
noncomputable def Row.v (r : Row) : V := .tup [.str r.nm, .bytes r.vl]
theorem Row.b_len (r : Row) : r.b.length = 3 + r.nm.length + r.wr.length := by unfold Row.b; simp; lia

theorem at_app {a b : List Nat} {i : Nat} (hi : i = a.length) {k : Nat} {b' : List Nat} (hb : b = k :: b') : (a ++ b)[i]? = some k := by
  subst hi hb; simp

theorem take_pairs_ {pre : List Nat} {rows : List Row} (hx : x = pre ++ rows.flatMap Row.b) (hp : p = pre.length) (hr : ∀ r ∈ rows, r.Ok) (hz : x.length ≤ 4096)
    (ok : Ok A (n + 5)) (t : Tup d (cur x p x.length) (cur x x.length x.length) cs r cs3) (q : Q (.list (rows.map Row.v)) cs3) : Cal c A cs 58 [.inst d] Q := by
  refine Cal_tup t ?_
  refine Cal_of (pass := [(d, cur x p x.length)]) (ps := [Str.ofString "cursor"]) (others := [Str.ofString "pairs", Str.ofString "name"]) ok (Nat.le_refl _) (fun pm code doc L a ok' => ?_) (by walk_at "bind")
  walk_at "start"
  have hA := ok'.handled
  walk_at "u"
  intro S
  walk_at "u"
  have hstop : ∀ don rst, rows = don ++ rst → stops (peekN x (p + (don.flatMap Row.b).length)) ∧ isWorth (peekN x (p + (don.flatMap Row.b).length)) = false := by
    intro don rst hd
    cases rst with
    | nil => rw [peekN_none (by rw [hx, hd, hp]; simp)]; exact ⟨by unfold stops; decide, by decide⟩
    | cons r1 rst =>
      rw [peekN_some (k := 59) (by rw [hx, hd, List.flatMap_append, ← List.append_assoc]; exact at_app (by rw [hp]; simp) rfl)]; exact ⟨by unfold stops; decide, by decide⟩
  refine skip_between_ (p := p) (m := 0) (n := n) (by lia) (by have := (hstop [] rows rfl).1; simpa using this) (ok'.le (by lia)) hz (by walk_at "tup") ?_
  walk_at "u"
  walk_at "while"
  refine GW_inv (fun k cs => ∃ don rst o, rows = don ++ rst ∧ k = rst.length ∧ cs = [(S, .list (don.map Row.v)), (L, .frame [(Str.ofString "cursor", some (V.inst d)), (Str.ofString "pairs", some (.ref S)), (Str.ofString "name", o)]),
    (d, cur x (p + (don.flatMap Row.b).length : Nat) x.length)]) ?_ rows.length _ ⟨[], rows, none, rfl, rfl, rfl⟩
  rintro k _ ⟨don, rst, o, hd, rfl, rfl⟩
  have hlen : x.length = p + (don.flatMap Row.b).length + (rst.flatMap Row.b).length := by rw [hx, hd, hp]; simp; lia
  have hl2 : rows.length = don.length + rst.length := by rw [hd]; simp
  have hrl : rows.length ≤ (rows.flatMap Row.b).length := by
    clear hstop hr hx hd hl2 hlen q
    induction rows with
    | nil => simp
    | cons r1 rows ih => have := r1.b_len; rw [List.flatMap_cons, List.length_append, List.length_cons]; lia
  have hxl : x.length = p + (rows.flatMap Row.b).length := by rw [hx, hp]; simp
  generalize hP : p + (don.flatMap Row.b).length = P at *
  walk_at "u"
  refine is_done_ (n := n) (ok'.le (by lia)) (by walk_at "tup") ?_
  walk_at "u"
  cases rst with
  | nil =>
    have e : P = x.length := by rw [hlen]; simp
    refine Ite_dt (by lia) ?_
    walk_at "u"
    rw [List.append_nil] at hd
    subst hd e
    exact ⟨rfl, q⟩
  | cons r1 rst =>
    have h1 := hr r1 (by rw [hd]; simp)
    have hb := r1.b_len
    rw [List.flatMap_cons, List.length_append] at hlen
    have x0 : x = (pre ++ don.flatMap Row.b) ++ (59 :: 32 :: (r1.nm ++ (61 :: (r1.wr ++ rst.flatMap Row.b)))) := by rw [hx, hd]; simp [Row.b]
    have l0 : P = (pre ++ don.flatMap Row.b).length := by rw [← hP, hp]; simp
    generalize pre ++ don.flatMap Row.b = a0 at x0 l0
    have x1 : x = (a0 ++ [59]) ++ (32 :: (r1.nm ++ (61 :: (r1.wr ++ rst.flatMap Row.b)))) := by rw [x0]; simp
    have x2 : x = (a0 ++ [59, 32]) ++ (r1.nm ++ (61 :: (r1.wr ++ rst.flatMap Row.b))) := by rw [x0]; simp
    have x3 : x = (a0 ++ [59, 32] ++ r1.nm) ++ (61 :: (r1.wr ++ rst.flatMap Row.b)) := by rw [x0]; simp
    have x4 : x = (a0 ++ [59, 32] ++ r1.nm ++ [61]) ++ (r1.wr ++ rst.flatMap Row.b) := by rw [x0]; simp
    have hn0 : 0 < r1.nm.length := List.length_pos_iff.mpr h1.ne
    obtain ⟨k1, r', hnm⟩ : ∃ k r', r1.nm = k :: r' := by
      cases h : r1.nm with
      | nil => exact absurd h h1.ne
      | cons k r => exact ⟨k, r, rfl⟩
    have hk0 : isTok k1 = true := h1.tok _ (by rw [hnm]; simp)
    have p2 : x[P + 1 + 1]? = some k1 := by rw [x2]; exact at_app (by simp; lia) (by rw [hnm]; rfl)
    have p3 : x[P + 1 + 1 + r1.nm.length]? = some 61 := by rw [x3]; exact at_app (by simp; lia) rfl
    obtain ⟨kw, rw', ew, hw⟩ := h1.tw.head
    have p4 : x[P + 1 + 1 + r1.nm.length + 0 + 1]? = some kw := by rw [x4]; exact at_app (by simp; lia) (by rw [ew]; rfl)
    refine Ite_df (by lia) ?_
    walk_at "u"
    refine take_ (p := P) (n := n) (k := 59) (by rw [x0]; exact at_app l0 rfl) (ok'.le (by lia)) hz (by walk_at "tup") ?_
    walk_at "u"
    refine skip_between_ (p := P + 1) (m := 1) (n := n) (fun j hj => by rw [show j = 0 by lia, x1]; exact at_app (by simp; lia) rfl) (by rw [peekN_some p2]; exact tok_stops hk0) (ok'.le (by lia)) hz (by walk_at "tup") ?_
    walk_at "u"
    refine is_done_ (p := P + 1 + 1) (n := n) (ok'.le (by lia)) (by walk_at "tup") ?_
    walk_at "u"
    refine peek_ (p := P + 1 + 1) (n := n) (ok'.le (by lia)) hz (by walk_at "tup") ?_
    rw [peekN_some p2]
    walk_at "u"
    have hne : ¬ (k1 : Int) = 59 := by have := tok_ne hk0 (m := 59) (by decide); lia
    refine Ite_dt hne ?_
    walk_at "u"
    refine take_token_ (p := P + 1 + 1) (n := n) x2 (by simp; lia) h1.tok h1.ne (by rw [peekN_some p3]; decide) (ok'.le (by lia)) hz (by walk_at "tup") ?_
    walk_at "u"
    refine small_word_ (n := n) (ok'.le (by lia)) (fun i hi => by have := tok_lt (h1.tok i hi); lia) (by lia) ?_
    have elow : r1.nm.map lowerN = r1.nm := by
      conv => rhs; rw [← List.map_id r1.nm]
      exact List.map_congr_left fun i hi => h1.low i hi
    rw [elow]
    walk_at "u"
    refine skip_between_ (p := P + 1 + 1 + r1.nm.length) (m := 0) (n := n) (by lia) (by rw [Nat.add_zero, peekN_some p3]; unfold stops; decide) (ok'.le (by lia)) hz (by walk_at "tup") ?_
    walk_at "u"
    refine take_ (p := P + 1 + 1 + r1.nm.length + 0) (n := n) (k := 61) (by rw [Nat.add_zero]; exact p3) (ok'.le (by lia)) hz (by walk_at "tup") ?_
    walk_at "u"
    refine skip_between_ (p := P + 1 + 1 + r1.nm.length + 0 + 1) (m := 0) (n := n) (by lia) (by rw [Nat.add_zero, peekN_some p4]; exact hw) (ok'.le (by lia)) hz (by walk_at "tup") ?_
    walk_at "u"
    have hst := hstop (don ++ [r1]) rst (by rw [hd]; simp)
    have e9 : p + ((don ++ [r1]).flatMap Row.b).length = P + 1 + 1 + r1.nm.length + 0 + 1 + 0 + r1.wr.length := by
      rw [← hP, List.flatMap_append, List.length_append]; simp only [List.flatMap_cons, List.flatMap_nil, List.append_nil]; rw [hb]; lia
    rw [e9] at hst
    walk_at "append"
    walk_at "u"
    refine take_worth_ (p := P + 1 + 1 + r1.nm.length + 0 + 1 + 0) (n := n) x4 (by simp; lia) h1.tw hst.2 (ok'.le (by lia)) hz (by walk_at "tup") ?_
    walk_at "u"
    refine M_append (by walk_at "upd") (by simp; lia) ?_
    walk_at "u"
    refine skip_between_ (p := P + 1 + 1 + r1.nm.length + 0 + 1 + 0 + r1.wr.length) (m := 0) (n := n) (by lia) (by rw [Nat.add_zero]; exact hst.1) (ok'.le (by lia)) hz (by walk_at "tup") ?_
    walk_at "u"
    refine ⟨rst.length, by simp, don ++ [r1], rst, some (.str r1.nm), by rw [hd]; simp, rfl, ?_⟩
    rw [e9]
    simp only [List.map_append, List.map_cons, List.map_nil, Row.v, Nat.add_zero]
end

/-! ## V16 -/
section
variable {c : Cx} {A : Around} {n : Nat} {rest cs cs3 r : Cs} {Q : V → Cs → Prop} {d : Addr} {x : List Nat} {p : Nat}

theorem s_nil : (Str.ofString "").cps.toList = [] := by decide +kernel
theorem s_0 : (Str.ofString "0").cps.toList = [48] := by decide +kernel
theorem s_9 : (Str.ofString "9").cps.toList = [57] := by decide +kernel
theorem s_star : (Str.ofString "*").cps.toList = [42] := by decide +kernel
theorem lt1 {a b : Nat} : ([a] < [b]) ↔ a < b := by
  rw [List.cons_lt_cons_iff]; simp

theorem part_number_ {k : Nat} (hk : k < 10) (ok : Ok A (n + 1)) (q : Q (.int k) rest) : Cal c A rest 59 [.str [48 + k]] Q := by
  refine Cal_of (pass := []) (ps := [Str.ofString "figures"]) (others := [Str.ofString "number", Str.ofString "sign"]) ok (Nat.le_refl _) (fun pm code doc L a ok' => ?_) (by walk_at "bind")
  walk_at "start"
  have hA := ok'.handled
  walk_at "u"
  refine Ite_df (by rw [s_nil]; simp) ?_
  walk_at "u"
  refine Ite_df (by simp) ?_
  walk_at "u"
  refine Sub_s (k := 48 + k) (by lia) rfl (by simp) ?_
  walk_at "u"
  walk_at "ite"
  · walk_at "u"
    refine Ite_df (by simp) ?_
    walk_at "u"
    walk_at "for"
    walk_at "u"
    refine ⟨[.str [48 + k]], IterV_str, ?_⟩
    refine GF.cons (by assumption) ?_
    walk_at "u"
    refine Ite_dt (by rw [s_0, lt1]; lia) ?_
    walk_at "u"
    refine Ite_dt (by rw [s_9, lt1]; lia) ?_
    walk_at "u"
    refine O_mul (.of_left (by decide)) ?_
    walk_at "u"
    refine GF.nil (by assumption) ?_
    walk_at "u"
    exact qI q (by lia)
  · walk_at "u"
    walk_at "for"
    walk_at "u"
    refine ⟨[.str [48 + k]], IterV_str, ?_⟩
    refine GF.cons (by assumption) ?_
    walk_at "u"
    refine Ite_dt (by rw [s_0, lt1]; lia) ?_
    walk_at "u"
    refine Ite_dt (by rw [s_9, lt1]; lia) ?_
    walk_at "u"
    refine O_mul (.of_left (by decide)) ?_
    walk_at "u"
    refine GF.nil (by assumption) ?_
    walk_at "u"
    exact qI q (by lia)

/-- a name's root: small letters, no star -/
structure Base (b : List Nat) : Prop where
  ne : b ≠ []
  star : 42 ∉ b
  len : b.length ≤ 100

theorem find_b {b r : List Nat} (h : Base b) : (b ++ 42 :: r)[b.length]? = some 42 ∧ ∀ j, j < b.length → (b ++ 42 :: r)[j]? ≠ some 42 := by
  refine ⟨by simp, fun j hj e => h.star ?_⟩
  rw [List.getElem?_append_left hj] at e
  exact List.mem_of_getElem? e

theorem part_of_none {b : List Nat} (h : Base b) (ok : Ok A (n + 1)) (q : Q .none rest) : Cal c A rest 60 [.str b] Q := by
  refine Cal_of (pass := []) (ps := [Str.ofString "name"]) (others := [Str.ofString "spot", Str.ofString "is_encoded", Str.ofString "number"]) ok (Nat.le_refl _) (fun pm code doc L a ok' => ?_) (by walk_at "bind")
  walk_at "start"
  have hA := ok'.handled
  walk_at "u"
  refine MethV_of PySem.F.plainAttrs_str PySem.F.slot_str_find PySem.F.type_str_find OfT_str ?_
  walk_at "u"
  rw [s_star]
  refine M_find0 h.star ?_
  walk_at "u"
  exact q

/-- what a part's name tells -/
inductive PN (b : List Nat) : List Nat → Nat → Bool → Prop
  | whole : PN b (b ++ [42]) 0 true
  | plain (k : Nat) (hk : k < 10) : PN b (b ++ [42, 48 + k]) k false
  | coded (k : Nat) (hk : k < 10) : PN b (b ++ [42, 48 + k, 42]) k true

theorem cutS {u v : Int} {i j : Nat} (hu : u = i) (hv : v = j) : cutL x (some u) (some v) = (x.drop i).take (j - i) := cutN hu hv
theorem cut0 {v : Int} {j : Nat} (hv : v = j) : cutL x none (some v) = x.take j := by subst hv; show x.take (j : Int).toNat = _; rw [show (j : Int).toNat = j by lia]
theorem cutD {v : Int} {j : Nat} (hv : v = j) : cutL x (some v) none = x.drop j := by subst hv; show x.drop (j : Int).toNat = _; rw [show (j : Int).toNat = j by lia]

theorem part_of_ {b nm : List Nat} {k : Nat} {e : Bool} (h : Base b) (pn : PN b nm k e) (ok : Ok A (n + 2)) (q : Q (.tup [.str b, .int k, .bool e]) rest) : Cal c A rest 60 [.str nm] Q := by
  refine Cal_of (pass := []) (ps := [Str.ofString "name"]) (others := [Str.ofString "spot", Str.ofString "is_encoded", Str.ofString "number"]) ok (Nat.le_refl _) (fun pm code doc L a ok' => ?_) (by walk_at "bind")
  walk_at "start"
  have hA := ok'.handled
  have hl := h.len
  have h0 : 0 < b.length := List.length_pos_iff.mpr h.ne
  walk_at "u"
  refine MethV_of PySem.F.plainAttrs_str PySem.F.slot_str_find PySem.F.type_str_find OfT_str ?_
  walk_at "u"
  rw [s_star]
  cases pn with
  | whole =>
    refine M_find (find_b (r := []) h).1 (find_b h).2 ?_
    walk_at "u"
    refine Sub_of PySem.F.slot_str_getitem.lookup OfT_str (GI_str (a := 42) (by simp; lia) (by simp; lia) (by simp; lia) (by rw [if_pos (by decide), List.length_append, show (-1 + ((b.length + [42].length : Nat) : Int)).toNat = b.length by simp; lia]; simp) ?_)
    walk_at "u"
    refine Ite_dt (by simp) ?_
    walk_at "u"
    refine Cut_str (by simp; lia) (by simp; lia) ?_
    rw [cut0 rfl]
    walk_at "u"
    simpa [s_star] using q
  | plain k hk =>
    refine M_find (find_b (r := [48 + k]) h).1 (find_b h).2 ?_
    walk_at "u"
    refine Sub_of PySem.F.slot_str_getitem.lookup OfT_str (GI_str (a := 48 + k) (by simp; lia) (by simp; lia) (by simp; lia) (by rw [if_pos (by decide), List.length_append, show (-1 + ((b.length + [42, 48 + k].length : Nat) : Int)).toNat = b.length + 1 by simp; lia]; simp) ?_)
    walk_at "u"
    have hne : ¬ ([48 + k] = (Str.ofString "*").cps.toList) := by rw [s_star]; simp; lia
    rw [decide_eq_false hne]
    walk_at "u"
    refine Cut_str (by simp; lia) (by simp; lia) ?_
    rw [cutD (j := b.length + 1) (by lia), show (b ++ [42, 48 + k]).drop (b.length + 1) = [48 + k] by rw [List.drop_append]; simp]
    walk_at "u"
    refine part_number_ (n := n) hk (ok'.le (by lia)) ?_
    walk_at "u"
    refine Cut_str (by simp; lia) (by simp; lia) ?_
    rw [cut0 rfl]
    walk_at "u"
    simpa using q
  | coded k hk =>
    refine M_find (find_b (r := [48 + k, 42]) h).1 (find_b h).2 ?_
    walk_at "u"
    refine Sub_of PySem.F.slot_str_getitem.lookup OfT_str (GI_str (a := 42) (by simp; lia) (by simp; lia) (by simp; lia) (by rw [if_pos (by decide), List.length_append, show (-1 + ((b.length + [42, 48 + k, 42].length : Nat) : Int)).toNat = b.length + 2 by simp; lia]; simp) ?_)
    walk_at "u"
    refine Ite_df (by simp; lia) ?_
    walk_at "u"
    refine Cut_str (by simp; lia) (by simp; lia) ?_
    rw [cutS (i := b.length + 1) (j := b.length + 2) (by lia) (by simp; lia), show ((b ++ [42, 48 + k, 42]).drop (b.length + 1)).take (b.length + 2 - (b.length + 1)) = [48 + k] by rw [List.drop_append, show b.length + 2 - (b.length + 1) = 1 by lia, List.drop_eq_nil_of_le (Nat.le_succ _)]; simp]
    walk_at "u"
    refine part_number_ (n := n) hk (ok'.le (by lia)) ?_
    walk_at "u"
    refine Cut_str (by simp; lia) (by simp; lia) ?_
    rw [cut0 rfl]
    walk_at "u"
    simpa [s_star] using q
end

/-! ## V17 -/
section
variable {c : Cx} {A : Around} {n : Nat} {rest cs cs3 r : Cs} {Q : V → Cs → Prop} {d : Addr} {x : List Nat} {p : Nat}

noncomputable def figs : List Nat := [48, 49, 50, 51, 52, 53, 54, 55, 56, 57, 65, 66, 67, 68, 69, 70]
noncomputable def hexd (a : Nat) : Nat := figs.getD a 0
theorem hexd_at {a : Nat} (h : a < 16) : figs[a]? = some (hexd a) := by
  unfold hexd; rw [List.getD_eq_getElem?_getD, List.getElem?_eq_getElem (show a < figs.length from h)]; rfl
theorem hexd_facts : ∀ a, a < 16 → hexd a < 97 ∧ hexd a ∈ figs ∧ Builtin.Bytes.find? (figs.map Nat.toUInt8).toArray #[(hexd a).toUInt8] 0 figs.length = some a := by decide +kernel

theorem hex_worth_ {g h : Nat} (hg : g < 16) (hh : h < 16) (ok : Ok A (n + 1)) (q : Q (.int (16 * g + h : Nat)) rest) : Cal c A rest 61 [.bytes [hexd g, hexd h]] Q := by
  refine Cal_of (pass := []) (ps := [Str.ofString "octets"]) (others := [Str.ofString "figures"]) ok (Nat.le_refl _) (fun pm code doc L a ok' => ?_) (by walk_at "bind")
  walk_at "start"
  have hA := ok'.handled
  obtain ⟨a1, a2, a3⟩ := hexd_facts g hg
  obtain ⟨b1, b2, b3⟩ := hexd_facts h hh
  walk_at "u"
  walk_at "comp"
  walk_at "u"
  refine ⟨_, fun v => v, fun _ => true, IterV_bytes, by simp [sizeL], fun C y hy => T_nil ⟨rfl, rfl⟩, fun C y hy _ => ?_, ?_⟩
  · obtain ⟨i, hi, rfl⟩ := List.mem_map.mp hy
    have : i < 97 := by simp at hi; lia
    walk_at "u"
    exact ⟨rfl, rfl⟩
  · refine T_bytes (ns := [hexd g, hexd h]) hA IsL_f (by simp; lia) (by simp) ?_
    walk_at "u"
    refine Ite_df (by simp) ?_
    walk_at "u"
    refine Sub_b (k := hexd g) (by lia) rfl (by simp) ?_
    walk_at "u"
    refine C_ninB (by lia) (by lia) ?_
    refine Ite_df (fun hc => hc a2) ?_
    walk_at "u"
    refine Sub_b (k := hexd h) (by lia) rfl (by simp) ?_
    walk_at "u"
    refine C_ninB (by lia) (by lia) ?_
    refine Ite_df (fun hc => hc b2) ?_
    walk_at "u"
    refine MethV_of PySem.W.FB.plainAttrs_bytes byte_slot_index byte_type_index OfT_bytes ?_
    walk_at "u"
    refine Sub_b (k := hexd g) (by lia) rfl (by simp) ?_
    walk_at "u"
    refine M_index (k := g) (by lia) (by lia) (by decide) (by decide) a3 ?_
    walk_at "u"
    refine O_mul (.of_left (by decide)) ?_
    walk_at "u"
    refine MethV_of PySem.W.FB.plainAttrs_bytes byte_slot_index byte_type_index OfT_bytes ?_
    walk_at "u"
    refine Sub_b (k := hexd h) (by lia) rfl (by simp) ?_
    walk_at "u"
    refine M_index (k := h) (by lia) (by lia) (by decide) (by decide) b3 ?_
    walk_at "u"
    exact qI q (by lia)

noncomputable def pct (o : Nat) : List Nat := if isTok o = true ∧ o ∉ [42, 39, 37] then [o] else [37, hexd (o / 16), hexd (o % 16)]
theorem pct_pos (o : Nat) : 0 < (pct o).length := by unfold pct; split <;> simp
theorem pct_le (o : Nat) : (pct o).length ≤ 3 := by unfold pct; split <;> simp
theorem pcts_len (os : List Nat) : os.length ≤ (os.flatMap pct).length := by
  induction os with
  | nil => simp
  | cons o os ih => have := pct_pos o; rw [List.flatMap_cons, List.length_append, List.length_cons]; lia

theorem percent_decoded_ {os : List Nat} (hs : ∀ o ∈ os, o < 256) (hz : (os.flatMap pct).length ≤ 4096) (ok : Ok A (n + 2)) (q : Q (.bytes os) rest) : Cal c A rest 62 [.bytes (os.flatMap pct)] Q := by
  refine Cal_of (pass := []) (ps := [Str.ofString "octets"]) (others := [Str.ofString "found", Str.ofString "at", Str.ofString "worth"]) ok (Nat.le_refl _) (fun pm code doc L a ok' => ?_) (by walk_at "bind")
  walk_at "start"
  have hA := ok'.handled
  have hol := pcts_len os
  walk_at "u"
  intro S
  walk_at "u"
  walk_at "while"
  refine GW_inv (fun k cs => ∃ don rst o, os = don ++ rst ∧ k = rst.length ∧ cs = [(S, .list (don.map fun (k : Nat) => V.int k)), (L, .frame [(Str.ofString "octets", some (.bytes (os.flatMap pct))), (Str.ofString "found", some (.ref S)),
    (Str.ofString "at", some (.int (don.flatMap pct).length)), (Str.ofString "worth", o)])]) ?_ os.length _ ⟨[], os, none, rfl, rfl, rfl⟩
  rintro k _ ⟨don, rst, o, hd, rfl, rfl⟩
  have hfl : (os.flatMap pct).length = (don.flatMap pct).length + (rst.flatMap pct).length := by rw [hd]; simp
  have hl2 : os.length = don.length + rst.length := by rw [hd]; simp
  walk_at "u"
  cases rst with
  | nil =>
    refine Ite_df (by simp at hfl; simp; lia) ?_
    walk_at "u"
    rw [List.append_nil] at hd
    subst hd
    refine T_bytes (ns := os) hA (IsL_c (by walk_at "at")) hs (by lia) ?_
    walk_at "u"
    exact q
  | cons o1 rst =>
    have ho := hs o1 (by rw [hd]; simp)
    have hp := pct_pos o1
    rw [List.flatMap_cons, List.length_append] at hfl
    have hx : os.flatMap pct = don.flatMap pct ++ (pct o1 ++ rst.flatMap pct) := by rw [hd]; simp
    refine Ite_dt (by lia) ?_
    walk_at "u"
    by_cases ht : isTok o1 = true ∧ o1 ∉ [42, 39, 37]
    · have e : pct o1 = [o1] := if_pos ht
      rw [e] at hx hfl
      have k0 : (os.flatMap pct)[(don.flatMap pct).length]? = some o1 := by rw [hx]; exact at_app rfl rfl
      have hne : ¬ ((o1 : Int) = 37) := by have := ht.2; simp at this; lia
      refine Sub_b (by lia) k0 hz ?_
      walk_at "u"
      walk_at "append"
      walk_at "u"
      refine Sub_b (by lia) k0 hz ?_
      walk_at "u"
      refine M_append (by walk_at "upd") (by simp; lia) ?_
      walk_at "u"
      refine ⟨rst.length, by simp, don ++ [o1], rst, some (.int (-1)), by rw [hd]; simp, rfl, ?_⟩
      simp [e]
    · have e : pct o1 = [37, hexd (o1 / 16), hexd (o1 % 16)] := if_neg ht
      rw [e] at hx hfl
      simp only [List.length_cons, List.length_nil] at hfl
      have k0 : (os.flatMap pct)[(don.flatMap pct).length]? = some 37 := by rw [hx]; exact at_app rfl rfl
      refine Sub_b (by lia) k0 hz ?_
      walk_at "u"
      refine Cut_bytes (by simp [okPart]; lia) (by simp [okPart]; lia) (by lia) ?_
      have hx2 : os.flatMap pct = (don.flatMap pct ++ [37]) ++ ([hexd (o1 / 16), hexd (o1 % 16)] ++ rst.flatMap pct) := by rw [hx]; simp
      have hc : cutL (os.flatMap pct) (some ((don.flatMap pct).length + 1 : Int)) (some ((don.flatMap pct).length + 3 : Int)) = [hexd (o1 / 16), hexd (o1 % 16)] := by
        have := cut_mid (p := (don.flatMap pct).length + 1) hx2 (by simp)
        generalize (don.flatMap pct).length = l at this ⊢
        rw [show (((l + 1 : Nat)) : Int) = (l : Int) + 1 by lia, show (((l + 1 + [hexd (o1 / 16), hexd (o1 % 16)].length : Nat)) : Int) = (l : Int) + 3 by simp only [List.length_cons, List.length_nil]; lia] at this
        exact this
      rw [hc]
      refine hex_worth_ (n := n) (by lia) (by lia) (ok'.le (by lia)) ?_
      rw [show 16 * (o1 / 16) + o1 % 16 = o1 by lia]
      walk_at "u"
      walk_at "append"
      walk_at "u"
      refine M_append (by walk_at "upd") (by simp; lia) ?_
      walk_at "u"
      refine ⟨rst.length, by simp, don ++ [o1], rst, some (.int o1), by rw [hd]; simp, rfl, ?_⟩
      simp [e]

theorem charset_cut_ {x : List Nat} (hz : x.length ≤ 4096) (ok : Ok A (n + 4)) (q : Q (.tup [strV "utf-8", .bytes x]) rest) : Cal c A rest 63 [.bytes (leadN ++ x)] Q := by
  refine Cal_of (pass := []) (ps := [Str.ofString "octets"]) (others := [Str.ofString "pieces"]) ok (Nat.le_refl _) (fun pm code doc L a ok' => ?_) (by walk_at "bind")
  walk_at "start"
  have hA := ok'.handled
  walk_at "u"
  refine MethV_of PySem.W.FB.plainAttrs_bytes byte_slot_split byte_type_split OfT_bytes ?_
  walk_at "u"
  refine M_split (by lia) ?_
  walk_at "u"
  refine L_list (by simp) ?_
  walk_at "u"
  refine Ite_df (by simp) ?_
  walk_at "u"
  refine MethV_of PySem.F.plainAttrs_str PySem.F.slot_str_join PySem.F.type_str_join OfT_str ?_
  walk_at "u"
  walk_at "comp"
  walk_at "u"
  refine Sub_l IsL_f (by lia) rfl (by simp) ?_
  refine ⟨_, fun v => match v with | .int i => .str [i.toNat] | v => v, fun _ => true, IterV_bytes, by simp [sizeL], fun C y hy => T_nil ⟨rfl, rfl⟩, fun C y hy _ => ?_, ?_⟩
  · obtain ⟨i, hi, rfl⟩ := List.mem_map.mp hy
    have : i < 256 := by simp at hi; lia
    walk_at "u"
    refine B_chr (by lia) (by lia) ⟨rfl, rfl⟩
  · walk_at "u"
    refine M_joinS (ns := utf8.map fun a => [a]) ?_ ?_ ?_
    · exact IsL_f
    · decide
    · walk_at "u"
      rw [flat1]
      refine charset_name_ (n := n) (ok'.le (by lia)) ?_
      walk_at "u"
      refine Sub_l IsL_f (by lia) rfl (by simp) ?_
      walk_at "u"
      exact q
end

/-! ## V18 -/
section
variable {c : Cx} {A : Around} {n : Nat} {rest cs cs3 r : Cs} {Q : V → Cs → Prop} {d : Addr} {x : List Nat} {p : Nat}

theorem ss_utf8 : ss "utf-8" = utf8 := by decide +kernel
noncomputable def partV (e : Bool) (ws : List (List Nat)) (k : Nat) : V := .tup [.bool e, .bytes (ws.getD k [])]
noncomputable def parts (e : Bool) (ws : List (List Nat)) (m : Nat) : List (Int × V) := (List.range m).map fun (k : Nat) => ((k : Int), partV e ws k)
theorem parts_keys (e : Bool) (ws : List (List Nat)) (m : Nat) : (parts e ws m).map (·.1) = (List.range m).map fun (k : Nat) => (k : Int) := by
  unfold parts; rw [List.map_map]; rfl
theorem parts_nodup (e : Bool) (ws : List (List Nat)) (m : Nat) : ((parts e ws m).map (·.1)).Nodup := by
  rw [parts_keys]
  exact List.Pairwise.map _ (fun (a b : Nat) (h : a ≠ b) (e : (a : Int) = b) => h (by lia)) List.nodup_range
theorem parts_mem (e : Bool) (ws : List (List Nat)) {m k : Nat} (h : k < m) : ((k : Int), partV e ws k) ∈ parts e ws m := List.mem_map.mpr ⟨k, List.mem_range.mpr h, rfl⟩
theorem parts_key (e : Bool) (ws : List (List Nat)) (m k : Nat) : ((k : Int) ∈ (parts e ws m).map (·.1)) ↔ k < m := by
  rw [parts_keys, List.mem_map]
  constructor
  · rintro ⟨a, h, e⟩
    have : a = k := by lia
    rw [← this]; exact List.mem_range.mp h
  · exact fun h => ⟨k, List.mem_range.mpr h, rfl⟩
theorem parts_succ (e : Bool) (ws : List (List Nat)) (m : Nat) : parts e ws (m + 1) = parts e ws m ++ [((m : Int), partV e ws m)] := by
  unfold parts; rw [List.range_succ, List.map_append]; rfl

theorem take_succ_flat (ws : List (List Nat)) {j : Nat} (h : j < ws.length) : (ws.take (j + 1)).flatten = (ws.take j).flatten ++ ws.getD j [] := by
  rw [List.take_add_one, List.getD_eq_getElem?_getD, List.getElem?_eq_getElem h, List.flatten_append]; simp
theorem flat_le (ws : List (List Nat)) (j : Nat) : (ws.take j).flatten.length ≤ ws.flatten.length := by
  conv => rhs; rw [← List.take_append_drop j ws, List.flatten_append, List.length_append]
  lia

theorem joined_plain {ws : List (List Nat)} {t : List Nat} (hw : ws.flatten = enc t) (ht : ∀ k ∈ t, okSign k) (hz : (enc t).length ≤ 4096) (ok : Ok A (n + 6)) (q : Q (.str t) rest) :
    Cal c A rest 64 [.idd (parts false ws ws.length)] Q := by
  refine Cal_of (pass := []) (ps := [Str.ofString "parts"]) (others := [Str.ofString "charset", Str.ofString "octets", Str.ofString "number", Str.ofString "is_encoded", Str.ofString "worth"]) ok (Nat.le_refl _) (fun pm code doc L a ok' => ?_) (by walk_at "bind")
  walk_at "start"
  have hA := ok'.handled
  walk_at "u"
  walk_at "while"
  refine GW_inv (fun k cs => ∃ j o1 o2, j + k = ws.length ∧ cs = [(L, .frame [(Str.ofString "parts", some (.idd (parts false ws ws.length))), (Str.ofString "charset", some (.str (Str.ofString "").cps.toList)),
    (Str.ofString "octets", some (.bytes (ws.take j).flatten)), (Str.ofString "number", some (.int j)), (Str.ofString "is_encoded", o1), (Str.ofString "worth", o2)])]) ?_ ws.length _ ⟨0, none, none, by lia, by simp [bs]⟩
  rintro k _ ⟨j, o1, o2, hj, rfl⟩
  have hfl := flat_le ws (j + 1)
  rw [hw] at hfl
  walk_at "u"
  refine C_inI IsI_f (parts_nodup _ _ _) ?_
  rcases Nat.lt_or_ge j ws.length with h | h
  · refine Ite_dt ((parts_key _ _ _ _).mpr h) ?_
    rw [take_succ_flat ws h, List.length_append] at hfl
    walk_at "u"
    refine Sub_of PySem.F.slot_dict_getitem.lookup OfT_idd (GI_I IsI_f (parts_nodup _ _ _) (parts_mem _ _ h) ?_)
    unfold partV
    walk_at "u"
    refine Ite_d (fun h0 => ?_) (fun h0 => ?_)
    · walk_at "u"
      exact ⟨k - 1, by lia, j + 1, some (.bool false), some (.bytes (ws.getD j [])), by lia, by rw [take_succ_flat ws h]; rfl⟩
    · walk_at "u"
      exact ⟨k - 1, by lia, j + 1, some (.bool false), some (.bytes (ws.getD j [])), by lia, by rw [take_succ_flat ws h]; rfl⟩
  · have : j = ws.length := by lia
    subst this
    refine Ite_df (fun e => Nat.lt_irrefl _ ((parts_key _ _ _ _).mp e)) ?_
    walk_at "u"
    refine T_str (by rw [s_nil]; simp) ?_
    refine Ite_df (by rw [s_nil]; simp) ?_
    rw [List.take_of_length_le (Nat.le_refl _), hw]
    walk_at "u"
    refine guessed_text_ (n := n) ht hz (ok'.le (by lia)) ?_
    walk_at "u"
    exact q
end

/-! ## V19 -/
section
variable {c : Cx} {A : Around} {n : Nat} {rest cs cs3 r : Cs} {Q : V → Cs → Prop} {d : Addr} {x : List Nat} {p : Nat}

noncomputable def rawC : List (List Nat) → List (List Nat)
  | [] => []
  | o :: os => (leadN ++ o.flatMap pct) :: os.map fun o => o.flatMap pct
theorem rawC_s {oss : List (List Nat)} {j : Nat} (h : j < oss.length) (h0 : j ≠ 0) : (rawC oss).getD j [] = (oss.getD j []).flatMap pct := by
  cases oss with
  | nil => simp at h
  | cons o os =>
    cases j with
    | zero => exact absurd rfl h0
    | succ j =>
      simp only [rawC, List.getD_eq_getElem?_getD, List.getElem?_cons_succ, List.getElem?_map]
      rw [List.getElem?_eq_getElem (by simpa using h)]
      rfl

theorem joined_coded {oss : List (List Nat)} {t : List Nat} (hne : oss ≠ []) (hw : oss.flatten = enc t) (ht : ∀ k ∈ t, okSign k) (hz : (enc t).length ≤ 4096) (hb : ∀ o ∈ oss, (o.flatMap pct).length ≤ 4000) (hs : ∀ o ∈ oss, ∀ i ∈ o, i < 256)
    (ok : Ok A (n + 6)) (q : Q (.str t) rest) : Cal c A rest 64 [.idd (parts true (rawC oss) oss.length)] Q := by
  refine Cal_of (pass := []) (ps := [Str.ofString "parts"]) (others := [Str.ofString "charset", Str.ofString "octets", Str.ofString "number", Str.ofString "is_encoded", Str.ofString "worth"]) ok (Nat.le_refl _) (fun pm code doc L a ok' => ?_) (by walk_at "bind")
  walk_at "start"
  have hA := ok'.handled
  have h0len : 0 < oss.length := List.length_pos_iff.mpr hne
  walk_at "u"
  walk_at "while"
  refine GW_inv (fun k cs => ∃ j o1 o2, j + k = oss.length ∧ cs = [(L, .frame [(Str.ofString "parts", some (.idd (parts true (rawC oss) oss.length))), (Str.ofString "charset", some (.str (if j = 0 then (Str.ofString "").cps.toList else ss "utf-8"))),
    (Str.ofString "octets", some (.bytes (oss.take j).flatten)), (Str.ofString "number", some (.int j)), (Str.ofString "is_encoded", o1), (Str.ofString "worth", o2)])]) ?_ oss.length _ ⟨0, none, none, by lia, by simp [bs]⟩
  rintro k _ ⟨j, o1, o2, hj, rfl⟩
  have hfl := flat_le oss (j + 1)
  rw [hw] at hfl
  walk_at "u"
  refine C_inI IsI_f (parts_nodup _ _ _) ?_
  rcases Nat.lt_or_ge j oss.length with h | h
  · refine Ite_dt ((parts_key _ _ _ _).mpr h) ?_
    rw [take_succ_flat oss h, List.length_append] at hfl
    walk_at "u"
    refine Sub_of PySem.F.slot_dict_getitem.lookup OfT_idd (GI_I IsI_f (parts_nodup _ _ _) (parts_mem _ _ h) ?_)
    unfold partV
    have hmem : oss.getD j [] ∈ oss := by rw [List.getD_eq_getElem?_getD, List.getElem?_eq_getElem h]; exact List.getElem_mem h
    have hbj := hb _ hmem
    have hsj := hs _ hmem
    walk_at "u"
    by_cases h0 : j = 0
    · subst h0
      refine Ite_dt rfl ?_
      walk_at "u"
      have e0 : (rawC oss).getD 0 [] = leadN ++ (oss.getD 0 []).flatMap pct := by
        cases oss with
        | nil => exact absurd rfl hne
        | cons o os => rfl
      rw [e0]
      refine charset_cut_ (n := n) (by lia) (ok'.le (by lia)) ?_
      walk_at "u"
      refine percent_decoded_ (n := n) hsj (by lia) (ok'.le (by lia)) ?_
      walk_at "u"
      exact ⟨k - 1, by lia, 1, some (.bool true), some (.bytes ((oss.getD 0 []).flatMap pct)), by lia, by rw [take_succ_flat oss h]; rfl⟩
    · refine Ite_df (by lia) ?_
      walk_at "u"
      rw [rawC_s h h0]
      refine percent_decoded_ (n := n) hsj (by lia) (ok'.le (by lia)) ?_
      walk_at "u"
      exact ⟨k - 1, by lia, j + 1, some (.bool true), some (.bytes ((oss.getD j []).flatMap pct)), by lia, by rw [take_succ_flat oss h, if_neg h0, if_neg (Nat.succ_ne_zero j)]; rfl⟩
  · have : j = oss.length := by lia
    subst this
    refine Ite_df (fun e => Nat.lt_irrefl _ ((parts_key _ _ _ _).mp e)) ?_
    rw [if_neg (by lia)]
    walk_at "u"
    rw [ss_utf8]
    refine T_str (by decide) ?_
    rw [List.take_of_length_le (Nat.le_refl _), hw]
    walk_at "u"
    refine text_in_ (n := n) ht hz (ok'.le (by lia)) ?_
    walk_at "u"
    exact q
end

/-! ## V20 -/
section
variable {c : Cx} {A : Around} {n : Nat} {rest cs cs2 cs3 r : Cs} {Q : V → Cs → Prop} {d : Addr} {x : List Nat} {p : Nat}

theorem Cal_frzI {a : Addr} {k : Nat} {l : List (Int × V)} (t : Take a (.idd l) cs cs2) (ne : a ≠ sysModules) (h : Cal c A cs2 k [.idd l] Q) : Cal c A cs k [.ref a] Q := fun W F s vs M r => by
  obtain ⟨o, ho1, ho2, M2, l2⟩ := (M.perm t.perm).freeze
  cases r using RelL.consE with
  | cons v _ vs _ h1 r1 =>
    cases h1; (first | cases r1 using Rel.intE | cases r1 using Rel.refE | cases r1 using RelL.nilE | cases r1 using Rel.strE | cases r1 using Rel.bytesE | cases r1 using Rel.noneE | cases r1 using Rel.boolE | cases r1 using Rel.listE | cases r1 using Rel.tupE | cases r1 using Rel.sdE | cases r1 using Rel.iddE | cases r1 using Rel.biE | cases r1 using Rel.tyE | cases r1 using Rel.rngE | cases r1)
    cases ho1 with
    | idd es n _ re => exact wpNoE (h (W.put a _) F s _ M2 (.cons _ _ _ _ (.idd a es n _ ne (by unfold Wd.put; rw [if_pos rfl]) (RelI.mono c.w c.ad l2 re)) .nil)) fun r s' h => h.back l2

theorem params_plain {b t : List Nat} (hb : Base b) (ht : ∀ k ∈ t, okSign k) (hz : (enc t).length ≤ 4096) (ok : Ok A (n + 6)) (q : Q (.sd [(b, .str t)]) rest) :
    Cal c A rest 65 [.list [.tup [.str b, .bytes (enc t)]]] Q := by
  refine Cal_of (pass := []) (ps := [Str.ofString "pairs"]) (others := [Str.ofString "plain", Str.ofString "parted", Str.ofString "name", Str.ofString "worth", Str.ofString "part", Str.ofString "base", Str.ofString "number", Str.ofString "is_encoded"]) ok (Nat.le_refl _) (fun pm code doc L a ok' => ?_) (by walk_at "bind")
  walk_at "start"
  have hA := ok'.handled
  walk_at "u"
  refine E_Dict0S (fun P hP => ?_)
  walk_at "u"
  refine E_Dict0S (fun D hD => ?_)
  walk_at "u"
  walk_at "for"
  walk_at "u"
  refine ⟨_, IterV_list, ?_⟩
  refine GF.cons (by assumption) ?_
  walk_at "u"
  refine part_of_none (n := n) hb (ok'.le (by lia)) ?_
  walk_at "u"
  refine C_ninS (IsS_c (by walk_at "at") hP) (by simp) ?_
  refine Ite_dt (by simp) ?_
  walk_at "u"
  refine guessed_text_ (n := n) ht hz (ok'.le (by lia)) ?_
  walk_at "u"
  refine SI_S (by walk_at "upd") (by simp) (by simp) (by simp) ?_
  walk_at "u"
  refine GF.nil (by assumption) ?_
  walk_at "u1"
  refine frzLoc (x := Str.ofString "parted") (d := D) (L := L) (by walk_at "take") ?lx (by walk_at "upd") (by walk_at "put") hD ?_
  case lx => walk_at "loc"
  walk_at "for"
  walk_at "u"
  refine ⟨_, IterV_S (by simp), ?_⟩
  refine GF.nil (by assumption) ?_
  walk_at "u1"
  walk_at "u1"
  refine E_FrzS ?_
  walk_at "u"
  refine ⟨_, _, _, rfl, hP, by walk_at "take", ?_⟩
  walk_at "u"
  exact q

abbrev frP (P D : Addr) (ps : V) (o1 o2 o3 o4 o5 o6 : Option V) : O := .frame [(Str.ofString "pairs", some ps), (Str.ofString "plain", some (.ref P)), (Str.ofString "parted", some (.ref D)),
  (Str.ofString "name", o1), (Str.ofString "worth", o2), (Str.ofString "part", o3), (Str.ofString "base", o4), (Str.ofString "number", o5), (Str.ofString "is_encoded", o6)]
noncomputable def pairV (nm : Nat → List Nat) (ws : List (List Nat)) (k : Nat) : V := .tup [.str (nm k), .bytes (ws.getD k [])]

theorem params_parts {b t : List Nat} {e : Bool} {ws : List (List Nat)} {nm : Nat → List Nat} {m : Nat} (hb : Base b) (hm : 0 < m) (hm2 : m ≤ 100) (hn : ∀ k, k < m → PN b (nm k) k e)
    (hJ : ∀ {A : Around} {rest : Cs} {Q : V → Cs → Prop}, Ok A (n + 6) → Q (.str t) rest → Cal c A rest 64 [.idd (parts e ws m)] Q)
    (ok : Ok A (n + 7)) (q : Q (.sd [(b, .str t)]) rest) :
    Cal c A rest 65 [.list ((List.range m).map (pairV nm ws))] Q := by
  refine Cal_of (pass := []) (ps := [Str.ofString "pairs"]) (others := [Str.ofString "plain", Str.ofString "parted", Str.ofString "name", Str.ofString "worth", Str.ofString "part", Str.ofString "base", Str.ofString "number", Str.ofString "is_encoded"]) ok (Nat.le_refl _) (fun pm code doc L a ok' => ?_) (by walk_at "bind")
  walk_at "start"
  have hA := ok'.handled
  walk_at "u"
  refine E_Dict0S (fun P hP => ?_)
  walk_at "u"
  refine E_Dict0S (fun D hD => ?_)
  walk_at "u"
  walk_at "for"
  walk_at "u"
  refine ⟨_, IterV_list, ?_⟩
  generalize hps : V.list ((List.range m).map (pairV nm ws)) = ps
  refine GF_inv (toV := pairV nm ws) (by assumption)
    (fun don cs => ∃ o1 o2 o3 o4 o5 o6, (don = [] ∧ cs = [(D, .sd []), (P, .sd []), (L, frP P D ps o1 o2 o3 o4 o5 o6)]) ∨
      (don ≠ [] ∧ ∃ I, I ≠ sysModules ∧ cs = [(I, .idd (parts e ws don.length)), (D, .sd [(b, .ref I)]), (P, .sd []), (L, frP P D ps o1 o2 o3 o4 o5 o6)]))
    (List.range m) ?_ ?_ _ ⟨none, none, none, none, none, none, .inl ⟨rfl, rfl⟩⟩
  · rintro don k rst hx _ ⟨o1, o2, o3, o4, o5, o6, h⟩
    have hlen := congrArg List.length hx
    simp at hlen
    have hk : k = don.length := by
      have h1 : (List.range m)[don.length]? = some k := by rw [hx]; simp
      rw [List.getElem?_range (by lia)] at h1
      exact (Option.some.inj h1).symm
    have hkm : k < m := by lia
    have pn := hn k hkm
    have hpl : (parts e ws don.length).length ≤ 16777216 := by unfold parts; simp; lia
    have fin : ∀ I, I ≠ sysModules → (fun don cs => ∃ o1 o2 o3 o4 o5 o6, (don = [] ∧ cs = [(D, .sd []), (P, .sd []), (L, frP P D ps o1 o2 o3 o4 o5 o6)]) ∨
        (don ≠ [] ∧ ∃ I, I ≠ sysModules ∧ cs = [(I, .idd (parts e ws don.length)), (D, .sd [(b, .ref I)]), (P, .sd []), (L, frP P D ps o1 o2 o3 o4 o5 o6)]) : List Nat → Cs → Prop) (don ++ [k])
        [(I, .idd (parts e ws don.length ++ [((k : Int), partV e ws k)])), (D, .sd [(b, .ref I)]), (P, .sd []), (L, frP P D ps (some (.str (nm k))) (some (.bytes (ws.getD k []))) (some (.tup [.str b, .int k, .bool e])) (some (.str b)) (some (.int k)) (some (.bool e)))] := by
      intro I hI
      refine ⟨some (.str (nm k)), some (.bytes (ws.getD k [])), some (.tup [.str b, .int k, .bool e]), some (.str b), some (.int k), some (.bool e), .inr ⟨by simp, I, hI, ?_⟩⟩
      rw [List.length_append, List.length_cons, List.length_nil, parts_succ, hk]
    unfold pairV
    rcases h with ⟨hd, rfl⟩ | ⟨hd, I, hI, rfl⟩
    · subst hd
      walk_at "u"
      refine part_of_ (n := n) hb pn (ok'.le (by lia)) ?_
      walk_at "u"
      refine C_ninS (IsS_c (by walk_at "at") hD) (by simp) ?_
      refine Ite_dt (by simp) ?_
      walk_at "u"
      refine E_Dict0I (fun I hI => ?_)
      walk_at "u"
      refine SI_S (by walk_at "upd") (by simp) (by simp) (by simp) ?_
      walk_at "u"
      refine Sub_of PySem.F.slot_dict_getitem.lookup (OfT_rsd (by walk_at "at")) (GI_S (IsS_c (by walk_at "at") hD) (by simp) (y := .ref I) (by simp) ?_)
      refine C_ninI (IsI_c (by walk_at "at") hI) (by simp) ?_
      refine Ite_dt (by simp) ?_
      walk_at "u"
      refine Sub_of PySem.F.slot_dict_getitem.lookup (OfT_rsd (by walk_at "at")) (GI_S (IsS_c (by walk_at "at") hD) (by simp) (y := .ref I) (by simp) ?_)
      walk_at "u"
      refine SI_I (by walk_at "upd") (by simp) (by simp) (by simp) ?_
      walk_at "u"
      exact fin I hI
    · walk_at "u"
      refine part_of_ (n := n) hb pn (ok'.le (by lia)) ?_
      walk_at "u"
      refine C_ninS (IsS_c (by walk_at "at") hD) (by simp) ?_
      refine Ite_df (by simp) ?_
      walk_at "u"
      have hk2 : (k : Int) ∉ (parts e ws don.length).map (·.1) := fun h => by have := (parts_key _ _ _ _).mp h; lia
      refine Sub_of PySem.F.slot_dict_getitem.lookup (OfT_rsd (by walk_at "at")) (GI_S (IsS_c (by walk_at "at") hD) (by simp) (y := .ref I) (by simp) ?_)
      refine C_ninI (IsI_c (by walk_at "at") hI) (parts_nodup _ _ _) ?_
      refine Ite_dt hk2 ?_
      walk_at "u"
      refine Sub_of PySem.F.slot_dict_getitem.lookup (OfT_rsd (by walk_at "at")) (GI_S (IsS_c (by walk_at "at") hD) (by simp) (y := .ref I) (by simp) ?_)
      walk_at "u"
      refine SI_I (by walk_at "upd") (parts_nodup _ _ _) hk2 hpl ?_
      walk_at "u"
      exact fin I hI
  · rintro _ ⟨o1, o2, o3, o4, o5, o6, h⟩
    rcases h with ⟨hd, rfl⟩ | ⟨hd, I, hI, rfl⟩
    · exfalso
      have := congrArg List.length hd
      simp at this; lia
    · rw [List.length_range]
      walk_at "u1"
      refine frzLoc (x := Str.ofString "parted") (d := D) (L := L) (by walk_at "take") ?lx (by walk_at "upd") (by walk_at "put") hD ?_
      case lx => walk_at "loc"
      walk_at "for"
      walk_at "u"
      refine ⟨_, IterV_S (by simp), ?_⟩
      refine GF.cons (by assumption) ?_
      walk_at "u"
      refine Sub_of PySem.F.slot_dict_getitem.lookup OfT_sd (GI_S IsS_f (by simp) (y := .ref I) (by simp) ?_)
      refine C_inI (IsI_c (by walk_at "at") hI) (parts_nodup _ _ _) ?_
      refine Ite_dt ((parts_key _ _ _ _).mpr hm) ?_
      walk_at "u"
      refine Sub_of PySem.F.slot_dict_getitem.lookup OfT_sd (GI_S IsS_f (by simp) (y := .ref I) (by simp) ?_)
      walk_at "u"
      refine Cal_frzI (by walk_at "take") hI ?_
      refine hJ (ok'.le (by lia)) ?_
      walk_at "u"
      refine SI_S (by walk_at "upd") (by simp) (by simp) (by simp) ?_
      walk_at "u"
      refine GF.nil (by assumption) ?_
      walk_at "u1"
      walk_at "u1"
      refine E_FrzS ?_
      walk_at "u"
      refine ⟨_, _, _, rfl, hP, by walk_at "take", ?_⟩
      walk_at "u"
      exact q
end

/-! ## V21 -/
section
variable {c : Cx} {A : Around} {n : Nat} {rest cs cs2 cs3 r : Cs} {Q : V → Cs → Prop} {x : List Nat} {p : Nat}

theorem read_value_ {rows : List Row} {v : V} (hx : x = 119 :: rows.flatMap Row.b) (hr : ∀ r ∈ rows, r.Ok) (hz : x.length ≤ 4096)
    (hP : ∀ {A : Around} {rest : Cs} {Q : V → Cs → Prop}, Ok A (n + 7) → Q v rest → Cal c A rest 65 [.list (rows.map Row.v)] Q)
    (ok : Ok A (n + 8)) (q : Q (.tup [.str [119], v]) rest) : Cal c A rest 66 [.bytes x] Q := by
  refine Cal_of (pass := []) (ps := [Str.ofString "octets"]) (others := [Str.ofString "cursor", Str.ofString "word"]) ok (Nat.le_refl _) (fun pm code doc L a ok' => ?_) (by walk_at "bind")
  walk_at "start"
  have hA := ok'.handled
  have x0 : x[0]? = some 119 := by rw [hx]; rfl
  have x1 : stops (peekN x (0 + [119].length)) ∧ isTok (peekN x (0 + [119].length)) = false := by
    cases rows with
    | nil => rw [peekN_none (by rw [hx]; simp)]; unfold stops; decide
    | cons r rows => rw [peekN_some (k := 59) (by rw [hx]; rfl)]; unfold stops; decide
  walk_at "u"
  refine CallV_cls ?_
  walk_at "u"
  intro A' d hA'
  refine init_ (n := n) (hA' _ _ (Nat.le_refl _) (ok'.le (by lia))) (by lia) ⟨rfl, ?_⟩
  walk_at "u"
  refine skip_between_ (p := 0) (m := 0) (n := n) (by lia) (by rw [peekN_some x0]; unfold stops; decide) (ok'.le (by lia)) hz (by walk_at "tup") ?_
  walk_at "u"
  refine take_token_ (p := 0 + 0) (n := n) (pre := []) (tok := [119]) (post := rows.flatMap Row.b) (by rw [hx]; rfl) rfl (by decide) (by decide) x1.2 (ok'.le (by lia)) hz (by walk_at "tup") ?_
  walk_at "u"
  refine small_word_ (n := n) (ok'.le (by lia)) (by decide) (by decide) ?_
  walk_at "u"
  refine take_pairs_ (p := 0 + 0 + [119].length) (n := n) (pre := [119]) (rows := rows) (by rw [hx]; rfl) rfl hr hz (ok'.le (by lia)) (by walk_at "tup") ?_
  walk_at "u"
  refine hP (ok'.le (by lia)) ?_
  repeat (first | (with_reducible refine Out_ret ?_) | walk_at "u1")
  exact q
end

/-! ## V22 -/
section
variable {c : Cx} {A : Around} {n : Nat} {rest cs cs2 cs3 r : Cs} {Q : V → Cs → Prop} {x : List Nat} {p : Nat}

/-- pieces laid into rows -/
noncomputable def rowsOf (room : Nat) : List (List Nat) → List (List Nat) → List (List (List Nat))
  | cur, [] => [cur]
  | cur, p :: ps => if cur.flatten.length + p.length > room then cur :: rowsOf room [p] ps else rowsOf room (cur ++ [p]) ps
noncomputable def grpV (g : List (List Nat)) : V := .bytes g.flatten

theorem in_rows_ {ps : List (List Nat)} {room : Nat} (hz : ps.flatten.length ≤ 4096) (hl : ps.length ≤ 4096) (ok : Ok A (n + 1)) (q : Q (.list ((rowsOf room [] ps).map grpV)) rest) :
    Cal c A rest 70 [.list (ps.map V.bytes), .int room] Q := by
  refine Cal_of (pass := []) (ps := [Str.ofString "pieces", Str.ofString "room"]) (others := [Str.ofString "rows", Str.ofString "piece"]) ok (Nat.le_refl _) (fun pm code doc L a ok' => ?_) (by walk_at "bind")
  walk_at "start"
  have hA := ok'.handled
  walk_at "u"
  intro S
  walk_at "u"
  walk_at "for"
  walk_at "u"
  refine ⟨_, IterV_list, ?_⟩
  generalize hps : V.list (ps.map V.bytes) = vps
  refine GF_inv (toV := V.bytes) (by assumption)
    (fun don cs => ∃ o done curr rst, ps = don ++ rst ∧ rowsOf room [] ps = done ++ rowsOf room curr rst ∧ curr.flatten.length ≤ don.flatten.length ∧ done.length ≤ don.length ∧
      cs = [(S, .list (done.map grpV ++ [grpV curr])), (L, .frame [(Str.ofString "pieces", some vps), (Str.ofString "room", some (.int room)), (Str.ofString "rows", some (.ref S)), (Str.ofString "piece", o)])])
    ps ?_ ?_ _ ⟨none, [], [], ps, rfl, rfl, Nat.le_refl _, Nat.le_refl _, rfl⟩
  · rintro don pc rst' hx _ ⟨o, done, curr, rst, hd, hr, hc, hdl, rfl⟩
    have e : rst = pc :: rst' := List.append_cancel_left (hd.symm.trans hx)
    subst e
    have hfl : ps.flatten.length = don.flatten.length + (pc.length + rst'.flatten.length) := by rw [hd]; simp
    have hll : ps.length = don.length + (rst'.length + 1) := by rw [hd]; simp
    have hlast : ∀ (l : List V) (y : V), (l ++ [y])[((-1 : Int) + (l ++ [y]).length).toNat]? = some y := by
      intro l y
      rw [show ((-1 : Int) + (l ++ [y]).length).toNat = l.length by simp; lia]
      simp
    have hset : ∀ (l : List V) (y z : V), (l ++ [y]).set ((-1 : Int) + (l ++ [y]).length).toNat z = l ++ [z] := by
      intro l y z
      rw [show ((-1 : Int) + (l ++ [y]).length).toNat = l.length by simp; lia]
      simp
    walk_at "u"
    refine Sub_of PySem.F.slot_list_getitem.lookup (OfT_rlist (by walk_at "at")) (GI_rlistNeg (by walk_at "at") (by decide) (by simp; lia) (by simp; lia) (hlast _ _) ?_)
    unfold grpV
    walk_at "u"
    by_cases hroom : curr.flatten.length + pc.length > room
    · rw [rowsOf, if_pos hroom] at hr
      refine Ite_dt (by lia) ?_
      walk_at "u"
      walk_at "append"
      walk_at "u"
      refine M_append (by walk_at "upd") (by simp; lia) ?_
      walk_at "u"
      refine Sub_of PySem.F.slot_list_getitem.lookup (OfT_rlist (by walk_at "at")) (GI_rlistNeg (by walk_at "at") (by decide) (by simp; lia) (by simp; lia) (hlast _ _) ?_)
      walk_at "u"
      refine SI_listNeg (k := 0) (l := (List.map (fun g => V.bytes g.flatten) done ++ [V.bytes curr.flatten]) ++ [V.bytes (bs [])]) (by decide) (by simp; lia) (by simp; lia) (by rw [hset]; walk_at "upd") ?_
      walk_at "u"
      refine ⟨some (.bytes pc), done ++ [curr], [pc], rst', by rw [hx]; simp, by rw [hr]; simp, by simp, by simp; lia, ?_⟩
      simp [bs]
    · rw [rowsOf, if_neg hroom] at hr
      refine Ite_df (by lia) ?_
      walk_at "u"
      refine Sub_of PySem.F.slot_list_getitem.lookup (OfT_rlist (by walk_at "at")) (GI_rlistNeg (by walk_at "at") (by decide) (by simp; lia) (by simp; lia) (hlast _ _) ?_)
      walk_at "u"
      refine SI_listNeg (k := 0) (l := List.map (fun g => V.bytes g.flatten) done ++ [V.bytes curr.flatten]) (by decide) (by simp; lia) (by simp; lia) (by rw [hset]; walk_at "upd") ?_
      walk_at "u"
      refine ⟨some (.bytes pc), done, curr ++ [pc], rst', by rw [hx]; simp, hr, by simp; simp at hc; lia, by simp; lia, ?_⟩
      simp
  · rintro _ ⟨o, done, curr, rst, hd, hr, hc, hdl, rfl⟩
    have e : rst = [] := List.append_cancel_left (by rw [List.append_nil]; exact hd.symm)
    subst e
    rw [rowsOf] at hr
    rw [hr] at q
    walk_at "u"
    simpa using q

theorem ArgsG.mono {env : Env} : ∀ {es : List Expr} {cs : Cs} {Q Q' : List V → Cs → Prop}, ArgsG c A env es cs Q → (∀ xs cs1, Q xs cs1 → Q' xs cs1) → ArgsG c A env es cs Q'
  | [], _, _, _, h, k => k _ _ h
  | _ :: _, _, _, _, h, k => G.mono h fun _ _ h1 => ArgsG.mono h1 fun _ _ h2 => k _ _ h2
theorem E_ListF {env : Env} {elts : List Expr} {pos : Pos} (h : ArgsG c A env elts cs fun xs cs1 => xs.length ≤ 16777216 ∧ Q (.list xs) cs1) (hs : noStar elts = true := by kernel_rfl!) : GE c A cs (eval (.List elts pos) env) Q :=
  E_Frz (E_List (hs := hs) (ArgsG.mono h fun xs cs1 ⟨h1, h2⟩ => ⟨h1, fun a => ⟨a, xs, cs1, rfl, .head _, h2⟩⟩))

theorem S_AsCompK {k : Nat} {pm code doc : Value} {L a : Addr} {elt iter : Expr} {x y : Str} {px py pos spos : Pos} {ifs : List Expr} {scope : Scope} {cl : List (Str × Addr)} {Q : VF → Cs → Prop} (hA : A.handled = none)
    (hclos : closureFor scope (envK k pm code doc L a) = pure cl)
    (h : GE c A cs (eval iter (envK k pm code doc L a)) fun x0 cs1 => CompH c A (envK k pm code doc L a) cs1 scope cl x ifs elt x0 fun r => ∃ loc loc' cs2, Upd L (.frame loc) (.frame loc') cs1 cs2 ∧ LocPut y (.list r) loc loc' ∧ Q .next cs2)
    (hsw : swapsWith (.ListComp elt [⟨.Name x px, iter, ifs, 0⟩] scope pos) (some (.Name y py)) spos.line (envK k pm code doc L a) = pure true := by with_unfolding_all rfl)
    (hcell : ∀ y ∈ scope.names, y.2 ≠ .cell := by decide +kernel) (hkind : scope.kind = .function := by kernel_rfl!)
    (hnames : ∀ y ∈ scope.names, y.2 = .local → scope.names.lookup y.1 = some .local := by decide +kernel) (hx : scope.names.lookup x = some .local := by kernel_rfl!)
    (hy : (envK k pm code doc L a).kindOf y = some .local := by kernel_rfl!) (hek : (envK k pm code doc L a).scope.kind = .function := by kernel_rfl!)
    (hns : notSet iter = true := by kernel_rfl!) :
    GS c A cs (exec (.Assign [.Name y py] (.ListComp elt [⟨.Name x px, iter, ifs, 0⟩] scope pos) spos) (envK k pm code doc L a)) Q :=
  S_AssignComp hA hclos h hsw hcell hkind hnames hx hy hek hns

theorem S_AsCompKC {k : Nat} {pm code doc : Value} {L a : Addr} {elt iter : Expr} {x y : Str} {px py pos spos : Pos} {ifs : List Expr} {scope : Scope} {cl : List (Str × Addr)} {Q : VF → Cs → Prop} (hA : A.handled = none)
    (hclos : closureFor scope (envKC k pm code doc L a) = pure cl)
    (h : GE c A cs (eval iter (envKC k pm code doc L a)) fun x0 cs1 => CompH c A (envKC k pm code doc L a) cs1 scope cl x ifs elt x0 fun r => ∃ loc loc' cs2, Upd L (.frame loc) (.frame loc') cs1 cs2 ∧ LocPut y (.list r) loc loc' ∧ Q .next cs2)
    (hsw : swapsWith (.ListComp elt [⟨.Name x px, iter, ifs, 0⟩] scope pos) (some (.Name y py)) spos.line (envKC k pm code doc L a) = pure true := by with_unfolding_all rfl)
    (hcell : ∀ y ∈ scope.names, y.2 ≠ .cell := by decide +kernel) (hkind : scope.kind = .function := by kernel_rfl!)
    (hnames : ∀ y ∈ scope.names, y.2 = .local → scope.names.lookup y.1 = some .local := by decide +kernel) (hx : scope.names.lookup x = some .local := by kernel_rfl!)
    (hy : (envKC k pm code doc L a).kindOf y = some .local := by kernel_rfl!) (hek : (envKC k pm code doc L a).scope.kind = .function := by kernel_rfl!)
    (hns : notSet iter = true := by kernel_rfl!) :
    GS c A cs (exec (.Assign [.Name y py] (.ListComp elt [⟨.Name x px, iter, ifs, 0⟩] scope pos) spos) (envKC k pm code doc L a)) Q :=
  S_AssignComp hA hclos h hsw hcell hkind hnames hx hy hek hns
end
local macro_rules | `(tactic| walk_at "uf") => `(tactic| repeat (first | (with_reducible refine (?_ : GE _ _ _ (eval _ _) _); with_reducible refine E_ListF ?_) | walk_at "u1"))

/-! ## V23 -/
section
variable {c : Cx} {A : Around} {n : Nat} {rest cs cs2 cs3 r : Cs} {Q : V → Cs → Prop} {x : List Nat} {p : Nat}

noncomputable def wholeQ (name ts : List Nat) : List Nat := ((name ++ [61, 34]) ++ ts.flatMap esc) ++ [34]
noncomputable def partQ (name : List Nat) (gs : List (List (List Nat))) (k : Nat) : List Nat := ((((name ++ [42]) ++ [48 + k]) ++ [61, 34]) ++ (gs.getD k []).flatten) ++ [34]
noncomputable def rowsQ (name ts : List Nat) : List (List Nat) :=
  if (wholeQ name ts).length + 2 ≤ 78 then [wholeQ name ts] else (List.range (rowsOf (66 - name.length) [] (ts.map esc)).length).map (partQ name (rowsOf (66 - name.length) [] (ts.map esc)))

theorem flat_esc (ts : List Nat) : (ts.map esc).flatten = ts.flatMap esc := rfl
theorem esc_flat_le (ts : List Nat) : (ts.flatMap esc).length ≤ 2 * ts.length := by
  induction ts with
  | nil => simp
  | cons t ts ih => have := esc_le t; rw [List.flatMap_cons, List.length_append, List.length_cons]; lia
theorem map_f_filter {α : Type} {l : List α} {g : α → V} {f : V → V} {h : α → V} (e : ∀ a ∈ l, f (g a) = h a) : List.map f (List.filter (fun _ => true) (l.map g)) = l.map h := by
  rw [List.filter_eq_self.mpr (by simp), List.map_map]
  exact List.map_congr_left e

theorem rng_list (N : Nat) : ((List.range ((N : Int) - 0).toNat).map fun (i : Nat) => V.int (0 + i)) = (List.range N).map fun (k : Nat) => V.int k := by
  rw [show ((N : Int) - 0).toNat = N by lia]
  exact List.map_congr_left fun k _ => by rw [Int.zero_add]
theorem IterV_rngN {N : Nat} (h : N ≤ 100000) : IterV c (.rng 0 (N : Int)) ((List.range N).map fun (k : Nat) => V.int k) := by
  rw [← rng_list]; exact IterV_rng (by lia) (by lia) (by lia) (by lia)
theorem grp_at (gs : List (List (List Nat))) {k : Nat} (h : k < gs.length) : (gs.map grpV)[k]? = some (.bytes (gs.getD k []).flatten) := by
  rw [List.getElem?_map, List.getD_eq_getElem?_getD, List.getElem?_eq_getElem h]; rfl

theorem quoted_rows_ {name ts : List Nat} (hn : name.length ≤ 40) (ht : ∀ s ∈ ts, okPlain s) (hz : ts.length ≤ 1000) (hg : (rowsOf (66 - name.length) [] (ts.map esc)).length ≤ 10)
    (hgl : ∀ k, ((rowsOf (66 - name.length) [] (ts.map esc)).getD k []).flatten.length ≤ 100)
    (ok : Ok A (n + 2)) (q : Q (.list ((rowsQ name ts).map V.bytes)) rest) : Cal c A rest 72 [.bytes name, .str ts] Q := by
  refine Cal_ofC (pass := []) (ps := [Str.ofString "name", Str.ofString "text"]) [(Str.ofString "text", some (.str ts)), (Str.ofString "pieces", none), (Str.ofString "whole", none)]
    (fun L => [(Str.ofString "name", L + 1, some (.bytes name)), (Str.ofString "rows", L + 1 + 1, none)]) ok (Nat.le_refl _) (fun pm code doc L a ok' => ?_) (by walk_at "bind") ?_ ?_ ?_ ?_
  · (conv in fnBody _ => whnf)
    simp only [List.map_cons, List.map_nil, List.append_nil]
    have hA := ok'.handled
    have hel := esc_flat_le ts
    walk_at "u"
    refine S_AsCompKC (cl := []) hA (by with_unfolding_all rfl) ?_
    walk_at "u"
    refine ⟨_, fun v => match v with | .str [s] => .bytes (esc s) | v => v, fun _ => true, IterV_str, by rw [List.length_map, sizeL]; lia, fun C y hy => T_nil ⟨rfl, rfl⟩, fun C y hy _ => ?_, ?_⟩
    · obtain ⟨s, hs, rfl⟩ := List.mem_map.mp hy
      have h1 := ht s hs
      walk_at "uf"
      refine T_bytes (ns := [s]) hA IsL_f (by simp; have := h1.1; lia) (by simp) ?_
      walk_at "u"
      refine escaped_octets_ (n := n) h1 (ok'.le (by lia)) ?_
      exact ⟨rfl, rfl⟩
    · rw [map_f_filter (h := fun s => V.bytes (esc s)) (fun a _ => rfl), show ts.map (fun s => V.bytes (esc s)) = (ts.map esc).map V.bytes by rw [List.map_map]; rfl]
      walk_at "asg"
      walk_at "u"
      walk_at "joinB"
      walk_at "u"
      refine M_joinBL (l := ts.map esc) IsL_f (by rw [← List.length_flatten, flat_esc]; show 0 * _ + _ ≤ _; lia) ?_
      rw [show bs [] = [] from rfl, joinN_nil, flat_esc]
      unfold rowsQ wholeQ at q
      have hfl : (ts.map esc).flatten.length ≤ 4096 := by rw [flat_esc]; lia
      have hll : (ts.map esc).length ≤ 4096 := by rw [List.length_map]; lia
      generalize ts.flatMap esc = F at hel q ⊢
      generalize ts.map esc = P at *
      walk_at "u"
      walk_at "ite"
      · rename_i h
        have h2 : ((((name ++ [61, 34]) ++ F) ++ [34]).length : Int) + 2 ≤ 78 := h
        rw [if_pos (by lia)] at q
        walk_at "u"
        intro b
        walk_at "u"
        exact q
      · rename_i h
        have h2 : ¬ ((((name ++ [61, 34]) ++ F) ++ [34]).length : Int) + 2 ≤ 78 := h
        rw [if_neg (by lia)] at q
        walk_at "u"
        rw [show (66 : Int) - (name.length : Int) = ((66 - name.length : Nat) : Int) by lia]
        refine in_rows_ (n := n) hfl hll (ok'.le (by lia)) ?_
        walk_at "asgC"
        walk_at "u"
        walk_at "compF"
        walk_at "u"
        refine L_list (by rw [List.length_map]; lia) ?_
        walk_at "u"
        refine T_range1 ?_
        rw [List.length_map]
        generalize rowsOf (66 - name.length) [] P = gs at *
        refine ⟨_, fun v => match v with | .int k => .bytes (partQ name gs k.toNat) | v => v, fun _ => true, IterV_rngN (by lia), by rw [List.length_map, List.length_range, sizeL]; lia, fun C y hy => T_nil ⟨rfl, rfl⟩, fun C y hy _ => ?_, ?_⟩
        · obtain ⟨k, hk, rfl⟩ := List.mem_map.mp hy
          have hk := List.mem_range.mp hk
          have hgk := hgl k
          walk_at "u"
          refine number_octets_ (k := k) (n := n) (by lia) (ok'.le (by lia)) ?_
          walk_at "u"
          refine Sub_l (y := .bytes (gs.getD k []).flatten) IsL_f (by lia) (grp_at gs hk) (by rw [List.length_map]; lia) ?_
          generalize hG : (gs.getD k []).flatten = G at hgk ⊢
          walk_at "u"
          subst hG
          exact ⟨rfl, rfl⟩
        · rw [map_f_filter (h := fun k => V.bytes (partQ name gs k)) (fun a _ => rfl)]
          walk_at "u"
          rw [List.map_map] at q
          exact q
  · intro pm code doc L a vs W r
    cases r using RelL.consE with
    | cons v1 _ vs _ rv rs => cases rs using RelL.consE with
      | cons v2 _ vs _ rw rs =>
        (first | cases rs using Rel.intE | cases rs using Rel.refE | cases rs using RelL.nilE | cases rs using Rel.strE | cases rs using Rel.bytesE | cases rs using Rel.noneE | cases rs using Rel.boolE | cases rs using Rel.listE | cases rs using Rel.tupE | cases rs using Rel.sdE | cases rs using Rel.iddE | cases rs using Rel.biE | cases rs using Rel.tyE | cases rs using Rel.rngE | cases rs)
        refine ⟨fun x v h => ?_, fun p hp => ?_⟩
        · simp at h
          obtain ⟨rfl, rfl⟩ := h
          exact ⟨v2, by with_unfolding_all rfl, rw⟩
        · simp only [List.mem_cons, List.not_mem_nil, or_false] at hp
          rcases hp with rfl | rfl
          · refine ⟨by with_unfolding_all rfl, fun v' e => ?_⟩
            cases e
            exact ⟨v1, by with_unfolding_all rfl, rv⟩
          · exact ⟨by with_unfolding_all rfl, fun v' e => by cases e⟩
  · intro L x hx
    simp only [List.mem_cons, List.not_mem_nil, or_false] at hx
    rcases hx with rfl | rfl
    · exact .inr ⟨by decide +kernel, by with_unfolding_all rfl⟩
    · exact .inl (by decide +kernel)
  · intro L; simp
  · show [Str.ofString "text", Str.ofString "pieces", Str.ofString "whole"].Nodup
    decide +kernel
end

/-! ## V24 -/
section
variable {c : Cx} {A : Around} {n : Nat} {rest cs cs2 cs3 r : Cs} {Q : V → Cs → Prop} {x : List Nat} {p : Nat}

theorem percent_encoded_ {os : List Nat} (ho : ∀ o ∈ os, o < 256) (hz : os.length ≤ 4096) (ok : Ok A (n + 2)) (q : Q (.list ((os.map pct).map V.bytes)) rest) : Cal c A rest 69 [.bytes os] Q := by
  refine Cal_of (pass := []) (ps := [Str.ofString "octets"]) (others := [Str.ofString "found", Str.ofString "code"]) ok (Nat.le_refl _) (fun pm code doc L a ok' => ?_) (by walk_at "bind")
  walk_at "start"
  have hA := ok'.handled
  walk_at "u"
  intro S
  walk_at "u"
  walk_at "for"
  walk_at "u"
  refine ⟨_, IterV_bytes, ?_⟩
  refine GF_inv (toV := fun (k : Nat) => V.int k) (by assumption)
    (fun don cs => ∃ o, cs = [(S, .list ((don.map pct).map V.bytes)), (L, .frame [(Str.ofString "octets", some (.bytes os)), (Str.ofString "found", some (.ref S)), (Str.ofString "code", o)])])
    os ?_ ?_ _ ⟨none, rfl⟩
  · rintro don k rst hx _ ⟨o, rfl⟩
    have hk := ho k (by rw [hx]; simp)
    have hl := congrArg List.length hx
    simp at hl
    walk_at "u"
    refine is_token_code_ (n := n) (ok'.le (by lia)) ?_
    walk_at "u"
    have fin : ∀ v, v = V.bytes (pct k) → ∃ o, [(S, .list ((don.map pct).map V.bytes ++ [v])), (L, .frame [(Str.ofString "octets", some (.bytes os)), (Str.ofString "found", some (.ref S)), (Str.ofString "code", some (.int k))])] =
        ([(S, .list (((don ++ [k]).map pct).map V.bytes)), (L, .frame [(Str.ofString "octets", some (.bytes os)), (Str.ofString "found", some (.ref S)), (Str.ofString "code", o)])] : Cs) := by
      rintro _ rfl
      exact ⟨some (.int k), by simp⟩
    have plainCase : (isTok k = true ∧ k ∉ [42, 39, 37]) → pct k = [k] := fun h => if_pos h
    have codeCase : ¬ (isTok k = true ∧ k ∉ [42, 39, 37]) → pct k = [37, hexd (k / 16), hexd (k % 16)] := fun h => if_neg h
    cases ht : isTok k
    · have e := codeCase (fun h => by rw [ht] at h; exact absurd h.1 (by decide))
      walk_at "uf"
      walk_at "append"
      walk_at "uf"
      refine O_div (by decide) (PyProof.noPylong_small (by decide)) ?_
      refine Sub_b (k := hexd (k / 16)) (by lia) (by rw [show ((k : Int) / 16).toNat = k / 16 by lia]; exact hexd_at (by lia)) (by decide) ?_
      walk_at "uf"
      refine Sub_b (k := hexd (k % 16)) (by lia) (by rw [show ((k : Int) % 16).toNat = k % 16 by lia]; exact hexd_at (by lia)) (by decide) ?_
      walk_at "uf"
      have h1 := (hexd_facts (k / 16) (by lia)).1
      have h2 := (hexd_facts (k % 16) (by lia)).1
      refine T_bytes (ns := [37, hexd (k / 16), hexd (k % 16)]) hA IsL_f (by simp; lia) (by simp) ?_
      refine M_append (by walk_at "upd") (by simp; lia) ?_
      walk_at "u"
      exact fin _ (by rw [e])
    · walk_at "u"
      refine C_ninB (by lia) (by lia) ?_
      walk_at "ite"
      · rename_i h
        have e := plainCase ⟨ht, h⟩
        walk_at "uf"
        walk_at "append"
        walk_at "uf"
        refine T_bytes (ns := [k]) hA IsL_f (by simp; lia) (by simp) ?_
        refine M_append (by walk_at "upd") (by simp; lia) ?_
        walk_at "u"
        exact fin _ (by rw [e])
      · rename_i h
        have e := codeCase (fun h' => h h'.2)
        walk_at "uf"
        walk_at "append"
        walk_at "uf"
        refine O_div (by decide) (PyProof.noPylong_small (by decide)) ?_
        refine Sub_b (k := hexd (k / 16)) (by lia) (by rw [show ((k : Int) / 16).toNat = k / 16 by lia]; exact hexd_at (by lia)) (by decide) ?_
        walk_at "uf"
        refine Sub_b (k := hexd (k % 16)) (by lia) (by rw [show ((k : Int) % 16).toNat = k % 16 by lia]; exact hexd_at (by lia)) (by decide) ?_
        walk_at "uf"
        have h1 := (hexd_facts (k / 16) (by lia)).1
        have h2 := (hexd_facts (k % 16) (by lia)).1
        refine T_bytes (ns := [37, hexd (k / 16), hexd (k % 16)]) hA IsL_f (by simp; lia) (by simp) ?_
        refine M_append (by walk_at "upd") (by simp; lia) ?_
        walk_at "u"
        exact fin _ (by rw [e])
  · rintro _ ⟨o, rfl⟩
    walk_at "u"
    exact q

theorem Cal_frzL {a : Addr} {k : Nat} {l : List V} {y : V} (t : Take a (.list l) cs cs2) (h : Cal c A cs2 k [.list l, y] Q) : Cal c A cs k [.ref a, y] Q := fun W F s vs M r => by
  obtain ⟨o, ho1, ho2, M2, l2⟩ := (M.perm t.perm).freeze
  cases r using RelL.consE with
  | cons v _ vs _ h1 r1 =>
    cases h1
    cases ho1 with
    | list es n _ re => exact wpNoE (h (W.put a _) F s _ M2 (.cons _ _ _ _ (.list a es n _ (by unfold Wd.put; rw [if_pos rfl]) (RelL.mono c.w c.ad l2 re)) (RL.mono l2 r1))) fun r s' h => h.back l2

noncomputable def wholeE (name os : List Nat) : List Nat := ((name ++ [42, 61]) ++ leadN) ++ os.flatMap pct
noncomputable def partE (name : List Nat) (gs : List (List (List Nat))) (k : Nat) : List Nat := (((name ++ [42]) ++ [48 + k]) ++ [42, 61]) ++ (gs.getD k []).flatten
noncomputable def gsE (name os : List Nat) : List (List (List Nat)) := rowsOf (66 - name.length) [] (leadN :: os.map pct)
noncomputable def rowsE (name os : List Nat) : List (List Nat) :=
  if (wholeE name os).length + 2 ≤ 78 then [wholeE name os] else (List.range (gsE name os).length).map (partE name (gsE name os))
theorem pct_flat_le (os : List Nat) : (os.flatMap pct).length ≤ 3 * os.length := by
  induction os with
  | nil => simp
  | cons t ts ih => have := pct_le t; rw [List.flatMap_cons, List.length_append, List.length_cons]; lia

theorem encoded_rows_ {name t : List Nat} (hn : name.length ≤ 40) (ht : ∀ k ∈ t, okSign k) (hz : (enc t).length ≤ 1000) (hg : (gsE name (enc t)).length ≤ 10)
    (hgl : ∀ k, ((gsE name (enc t)).getD k []).flatten.length ≤ 100)
    (ok : Ok A (n + 5)) (q : Q (.list ((rowsE name (enc t)).map V.bytes)) rest) : Cal c A rest 71 [.bytes name, .str t] Q := by
  refine Cal_ofC (pass := []) (ps := [Str.ofString "name", Str.ofString "text"]) [(Str.ofString "text", some (.str t)), (Str.ofString "pieces", none), (Str.ofString "lead", none), (Str.ofString "whole", none)]
    (fun L => [(Str.ofString "name", L + 1, some (.bytes name)), (Str.ofString "rows", L + 1 + 1, none)]) ok (Nat.le_refl _) (fun pm code doc L a ok' => ?_) (by walk_at "bind") ?_ ?_ ?_ ?_
  · (conv in fnBody _ => whnf)
    simp only [List.map_cons, List.map_nil, List.append_nil]
    have hA := ok'.handled
    have ho : ∀ o ∈ enc t, o < 256 := by
      intro o h
      obtain ⟨s, hs, hk⟩ := List.mem_flatMap.mp h
      rcases ht s hs with h | h
      · rw [show enc1 s = [s] from if_neg (by lia)] at hk; simp at hk; lia
      · rw [show enc1 s = [195, 169] from if_pos h] at hk; simp at hk; lia
    have hel := pct_flat_le (enc t)
    walk_at "u"
    rw [show strV "utf-8" = V.str utf8 from congrArg V.str ss_utf8]
    refine octets_in_ (n := n) ht (by lia) (ok'.le (by lia)) ?_
    walk_at "u"
    refine percent_encoded_ (n := n) ho (by lia) (ok'.le (by lia)) ?_
    walk_at "u"
    walk_at "joinB"
    walk_at "u"
    refine M_joinBL (l := (enc t).map pct) IsL_f (by rw [← List.length_flatten]; show 0 * _ + ((enc t).flatMap pct).length ≤ _; lia) ?_
    rw [show bs [] = [] from rfl, joinN_nil, show ((enc t).map pct).flatten = (enc t).flatMap pct from rfl]
    unfold rowsE wholeE at q
    have hfl : (leadN :: (enc t).map pct).flatten.length ≤ 4096 := by
      rw [List.flatten_cons, List.length_append, show ((enc t).map pct).flatten = (enc t).flatMap pct from rfl, show leadN.length = 7 from rfl]; lia
    have hll : (leadN :: (enc t).map pct).length ≤ 4096 := by rw [List.length_cons, List.length_map]; lia
    generalize (enc t).flatMap pct = F at hel q ⊢
    unfold gsE at hg hgl q
    generalize hP : (enc t).map pct = P at *
    have hPl : P.length ≤ 1000 := by rw [← hP, List.length_map]; exact hz
    walk_at "u"
    walk_at "ite"
    · rename_i h
      have h2 : ((((name ++ [42, 61]) ++ leadN) ++ F).length : Int) + 2 ≤ 78 := h
      rw [if_pos (by lia)] at q
      walk_at "u"
      intro b
      walk_at "u"
      exact q
    · rename_i h
      have h2 : ¬ ((((name ++ [42, 61]) ++ leadN) ++ F).length : Int) + 2 ≤ 78 := h
      rw [if_neg (by lia)] at q
      walk_at "uf"
      refine O_addL IsL_f IsL_f (by simp; lia) (fun b => ?_)
      walk_at "u"
      rw [show (66 : Int) - (name.length : Int) = ((66 - name.length : Nat) : Int) by lia]
      refine Cal_frzL (by walk_at "take") ?_
      refine in_rows_ (n := n) (ps := leadN :: P) hfl hll (ok'.le (by lia)) ?_
      walk_at "asgC"
      walk_at "u"
      walk_at "compF"
      walk_at "u"
      refine L_list (by rw [List.length_map]; lia) ?_
      walk_at "u"
      refine T_range1 ?_
      rw [List.length_map]
      generalize rowsOf (66 - name.length) [] (leadN :: P) = gs at *
      refine ⟨_, fun v => match v with | .int k => .bytes (partE name gs k.toNat) | v => v, fun _ => true, IterV_rngN (by lia), by rw [List.length_map, List.length_range, sizeL]; lia, fun C y hy => T_nil ⟨rfl, rfl⟩, fun C y hy _ => ?_, ?_⟩
      · obtain ⟨k, hk, rfl⟩ := List.mem_map.mp hy
        have hk := List.mem_range.mp hk
        have hgk := hgl k
        walk_at "u"
        refine number_octets_ (k := k) (n := n) (by lia) (ok'.le (by lia)) ?_
        walk_at "u"
        refine Sub_l (y := .bytes (gs.getD k []).flatten) IsL_f (by lia) (grp_at gs hk) (by rw [List.length_map]; lia) ?_
        generalize hG : (gs.getD k []).flatten = G at hgk ⊢
        walk_at "u"
        subst hG
        exact ⟨rfl, rfl⟩
      · rw [map_f_filter (h := fun k => V.bytes (partE name gs k)) (fun a _ => rfl)]
        walk_at "u"
        rw [List.map_map] at q
        exact q
  · intro pm code doc L a vs W r
    cases r using RelL.consE with
    | cons v1 _ vs _ rv rs => cases rs using RelL.consE with
      | cons v2 _ vs _ rw rs =>
        (first | cases rs using Rel.intE | cases rs using Rel.refE | cases rs using RelL.nilE | cases rs using Rel.strE | cases rs using Rel.bytesE | cases rs using Rel.noneE | cases rs using Rel.boolE | cases rs using Rel.listE | cases rs using Rel.tupE | cases rs using Rel.sdE | cases rs using Rel.iddE | cases rs using Rel.biE | cases rs using Rel.tyE | cases rs using Rel.rngE | cases rs)
        refine ⟨fun x v h => ?_, fun p hp => ?_⟩
        · simp at h
          obtain ⟨rfl, rfl⟩ := h
          exact ⟨v2, by with_unfolding_all rfl, rw⟩
        · simp only [List.mem_cons, List.not_mem_nil, or_false] at hp
          rcases hp with rfl | rfl
          · refine ⟨by with_unfolding_all rfl, fun v' e => ?_⟩
            cases e
            exact ⟨v1, by with_unfolding_all rfl, rv⟩
          · exact ⟨by with_unfolding_all rfl, fun v' e => by cases e⟩
  · intro L x hx
    simp only [List.mem_cons, List.not_mem_nil, or_false] at hx
    rcases hx with rfl | rfl
    · exact .inr ⟨by decide +kernel, by with_unfolding_all rfl⟩
    · exact .inl (by decide +kernel)
  · intro L; simp
  · show [Str.ofString "text", Str.ofString "pieces", Str.ofString "lead", Str.ofString "whole"].Nodup
    decide +kernel
end

/-! ## V25 -/
section
variable {c : Cx} {A : Around} {n : Nat} {rest cs cs2 cs3 r : Cs} {Q : V → Cs → Prop} {x : List Nat} {p : Nat}

theorem filt_all {α : Type} {l : List α} {g : α → V} {f : V → V} {p : V → Bool} {h : α → V} (hp : ∀ a ∈ l, p (g a) = true) (e : ∀ a ∈ l, f (g a) = h a) : List.map f (List.filter p (l.map g)) = l.map h := by
  rw [List.filter_eq_self.mpr (by intro v hv; obtain ⟨a, ha, rfl⟩ := List.mem_map.mp hv; exact hp a ha), List.map_map]
  exact List.map_congr_left e
theorem filt_none {α : Type} {l : List α} {g : α → V} {f : V → V} {p : V → Bool} (hp : ∀ a ∈ l, p (g a) = false) : List.map f (List.filter p (l.map g)) = [] := by
  rw [List.map_eq_nil_iff, List.filter_eq_nil_iff]
  intro v hv; obtain ⟨a, ha, rfl⟩ := List.mem_map.mp hv; simp [hp a ha]

structure Name (b : List Nat) : Prop where
  tok : ∀ k ∈ b, isTok k = true
  low : ∀ k ∈ b, lowerN k = k
  free : ∀ k ∈ b, k ∉ [42, 39, 37]
  ne : b ≠ []
  len : b.length ≤ 40

/-- what param_rows gives -/
noncomputable def rowsP (name t : List Nat) : List (List Nat) :=
  if (t ≠ [] ∧ ∀ k ∈ t, isTok k = true) ∧ (((name ++ [61]) ++ t).length + 2 ≤ 78) then [(name ++ [61]) ++ t] else rowsQ name t

theorem param_rows_ {b t : List Nat} {rs : List (List Nat)} (hb : Name b) (ht : ∀ k ∈ t, okSign k) (hz : t.length ≤ 1000) (hrs : rs.length ≤ 1000)
    (hE : ¬ (∀ i ∈ t, 32 ≤ i ∧ i < 127) → ∀ {A : Around} {rest : Cs} {Q : V → Cs → Prop}, Ok A (n + 5) → Q (.list (rs.map V.bytes)) rest → Cal c A rest 71 [.bytes b, .str t] Q)
    (hP : (∀ i ∈ t, 32 ≤ i ∧ i < 127) → ((t ≠ [] ∧ ∀ k ∈ t, isTok k = true) ∧ (((b ++ [61]) ++ t).length + 2 ≤ 78) → rs = [(b ++ [61]) ++ t]) ∧
      (¬ ((t ≠ [] ∧ ∀ k ∈ t, isTok k = true) ∧ (((b ++ [61]) ++ t).length + 2 ≤ 78)) → ∀ {A : Around} {rest : Cs} {Q : V → Cs → Prop}, Ok A (n + 5) → Q (.list (rs.map V.bytes)) rest → Cal c A rest 72 [.bytes b, .str t] Q))
    (ok : Ok A (n + 6)) (q : Q (.list (rs.map V.bytes)) rest) : Cal c A rest 74 [.str b, .str t] Q := by
  refine Cal_of (pass := []) (ps := [Str.ofString "name", Str.ofString "text"]) (others := [Str.ofString "octets", Str.ofString "barred", Str.ofString "rows", Str.ofString "worth", Str.ofString "whole"]) ok (Nat.le_refl _) (fun pm code doc L a ok' => ?_) (by walk_at "bind")
  walk_at "start"
  have hA := ok'.handled
  have hbl := hb.len
  walk_at "u"
  walk_at "comp"
  walk_at "u"
  refine ⟨_, fun v => match v with | .str [s] => .int s | v => v, fun v => match v with | .str [s] => decide ((s : Int) < 128) | _ => false, IterV_str, by rw [List.length_map, sizeL]; lia, fun C y hy => T_one ?_, fun C y hy _ => ?_, ?_⟩
  · obtain ⟨s, hs, rfl⟩ := List.mem_map.mp hy
    walk_at "u"
    exact ⟨rfl, rfl⟩
  · obtain ⟨s, hs, rfl⟩ := List.mem_map.mp hy
    walk_at "u"
    exact ⟨rfl, rfl⟩
  rw [filt_all (h := fun (s : Nat) => V.int s) (fun a ha => by have := tok_lt (hb.tok a ha); exact decide_eq_true (by lia)) (fun a _ => rfl)]
  refine T_bytes (ns := b) hA IsL_f (fun k hk => by have := tok_lt (hb.tok k hk); lia) (by lia) ?_
  walk_at "u"
  refine S_AsCompK (cl := []) hA (by with_unfolding_all rfl) ?_
  walk_at "u"
  refine ⟨_, fun v => v, fun v => match v with | .int i => decide (i.toNat ∈ [42, 39, 37]) | _ => false, IterV_bytes, by rw [List.length_map, sizeL]; lia, fun C y hy => T_one ?_, fun C y hy _ => ?_, ?_⟩
  · obtain ⟨s, hs, rfl⟩ := List.mem_map.mp hy
    have := tok_lt (hb.tok s hs)
    walk_at "u"
    refine C_inB (by lia) (by lia) ?_
    exact ⟨rfl, rfl⟩
  · walk_at "u"
    exact ⟨rfl, rfl⟩
  rw [filt_none (fun a ha => decide_eq_false (hb.free a ha))]
  walk_at "asg"
  walk_at "u"
  refine is_token_ (n := n) (ok'.le (by lia)) (by lia) ?_
  walk_at "u"
  refine Ite_dt ⟨hb.ne, hb.tok⟩ ?_
  walk_at "u"
  refine T_list (by simp) ?_
  walk_at "u"
  refine lower_text_ (n := n) (ok'.le (by lia)) (fun k hk => by have := tok_lt (hb.tok k hk); lia) (by lia) ?_
  walk_at "u"
  have elow : b.map lowerN = b := by
    conv => rhs; rw [← List.map_id b]
    exact List.map_congr_left fun i hi => hb.low i hi
  rw [elow]
  refine Ite_df (fun h => h rfl) ?_
  walk_at "u"
  refine is_plain_ (n := n) (ok'.le (by lia)) (by lia) ?_
  walk_at "u"
  walk_at "ite"
  · rename_i h
    obtain ⟨p1, p2⟩ := hP h
    walk_at "u"
    walk_at "comp"
    walk_at "u"
    refine ⟨_, fun v => match v with | .str [s] => .int s | v => v, fun _ => true, IterV_str, by rw [List.length_map, sizeL]; lia, fun C y hy => T_nil ⟨rfl, rfl⟩, fun C y hy _ => ?_, ?_⟩
    · obtain ⟨s, hs, rfl⟩ := List.mem_map.mp hy
      walk_at "u"
      exact ⟨rfl, rfl⟩
    rw [map_f_filter (h := fun (s : Nat) => V.int s) (fun a _ => rfl)]
    refine T_bytes (ns := t) hA IsL_f (fun k hk => by have := (h k hk).2; lia) (by lia) ?_
    walk_at "u"
    refine is_token_ (n := n) (ok'.le (by lia)) (by lia) ?_
    walk_at "u"
    walk_at "ite"
    · rename_i h1
      walk_at "u"
      walk_at "ite"
      · rename_i h2
        have h3 : ((((b ++ [61]) ++ t).length : Nat) : Int) + 2 ≤ 78 := h2
        have e := p1 ⟨h1, by lia⟩
        subst e
        walk_at "uf"
        refine L_list (by simp) ?_
        walk_at "u"
        refine Ite_df (by simp) ?_
        walk_at "u"
        exact q
      · rename_i h2
        have h3 : ¬ ((((b ++ [61]) ++ t).length : Nat) : Int) + 2 ≤ 78 := h2
        walk_at "u"
        refine p2 (fun h => h3 (by lia)) (ok'.le (by lia)) ?_
        walk_at "u"
        refine L_list (by rw [List.length_map]; lia) ?_
        rw [List.length_map]
        walk_at "u"
        exact q
    · rename_i h1
      walk_at "u"
      refine p2 (fun h => h1 h.1) (ok'.le (by lia)) ?_
      walk_at "u"
      refine L_list (by rw [List.length_map]; lia) ?_
      rw [List.length_map]
      walk_at "u"
      exact q
  · rename_i h
    walk_at "u"
    refine hE h (ok'.le (by lia)) ?_
    walk_at "u"
    refine L_list (by rw [List.length_map]; lia) ?_
    rw [List.length_map]
    walk_at "u"
    exact q
end

/-! ## V26 -/
section
variable {c : Cx} {A : Around} {n : Nat} {rest cs cs2 cs3 r : Cs} {Q : V → Cs → Prop} {x : List Nat} {p : Nat}

noncomputable def intV : Value → V
  | .int i _ => .int i
  | _ => .none
theorem RL_ints {W : Wd} : ∀ {vs : List Value}, (∀ v ∈ vs, ∃ i t, v = .int i t) → RL c W vs (vs.map intV)
  | [], _ => .nil
  | v :: vs, h => by
    obtain ⟨i, t, rfl⟩ := h v (by simp)
    exact .cons _ _ _ _ (.int i t) (RL_ints fun v hv => h v (by simp [hv]))

theorem Cut_raw {a : Addr} {vs : List Value} {value : Expr} {lo' u : Option Expr} {p : Pos} {lo hi : Option Int} (hL : c.s₀.heap.IsList a vs.toArray) (hi' : ∀ v ∈ vs, ∃ i t, v = .int i t) (hz : vs.length ≤ 16777216)
    (q : ∀ ns : List Int, ns.length ≤ vs.length → Q (.list (ns.map V.int)) cs) : Cut c A cs value (.Slice lo' u none p) (.ref a) lo hi Q := by
  intro W F s v a' lv uv M r pl pu hs
  (first | cases r using Rel.intE | cases r using Rel.refE | cases r using RelL.nilE | cases r using Rel.strE | cases r using Rel.bytesE | cases r using Rel.noneE | cases r using Rel.boolE | cases r using Rel.listE | cases r using Rel.tupE | cases r using Rel.sdE | cases r using Rel.iddE | cases r using Rel.biE | cases r using Rel.tyE | cases r using Rel.rngE | cases r)
  have hL2 : s.heap.IsList a vs.toArray := let ⟨o, h1, h2⟩ := hL; ⟨o, M.hw _ _ (M.base _ _ h1), h2⟩
  have rl : RL c W vs (vs.map intV) := RL_ints hi'
  refine tail_any (T := "list") (let ⟨o, h1, h2, _⟩ := hL2; ⟨o, h1, h2⟩) PySem.F.slot_list_getitem.lookup (ops := [.ref a', .ref a]) ?_ rfl
  refine wpAny_getItem_list_slice (items := vs.toArray) hL2 hs pl pu .none (by simp) ?_ (by simp [sizeL]; exact hz)
  unfold slicePick
  generalize hidx : sliceRange (sliceBounds lo hi none vs.toArray.size).1 (sliceBounds lo hi none vs.toArray.size).2.1 (sliceBounds lo hi none vs.toArray.size).2.2 = idx
  have hlen := slicePick_size_le vs.toArray lo hi none
  unfold slicePick at hlen
  rw [hidx, List.size_toArray, List.size_toArray] at hlen
  generalize hus : idx.filterMap (vs.toArray[·]?) = us at hlen
  have hin : ∀ v ∈ us, ∃ i t, v = .int i t := by
    intro v hv
    rw [← hus] at hv
    obtain ⟨k, _, hk⟩ := List.mem_filterMap.mp hv
    rw [List.getElem?_toArray] at hk
    exact hi' v (List.mem_of_getElem? hk)
  have e : us.map intV = (us.map fun v => match v with | .int i _ => i | _ => 0).map V.int := by
    rw [List.map_map]
    refine List.map_congr_left fun v hv => ?_
    obtain ⟨i, t, rfl⟩ := hin v hv
    rfl
  have rp : RL c W us (us.map intV) := RL_ints hin
  rw [e] at rp
  obtain ⟨M', l'⟩ := M.pushW (listObj us 0)
  exact ⟨_, _, _, l', .list _ _ 0 _ (by unfold Wd.put; rw [if_pos rfl]) (RL.mono l' rp), M', q _ (by rw [List.length_map]; exact hlen)⟩

theorem Out_pass {L : Addr} {rest pass : Cs} {Q : V → Cs → Prop} {v : V} {fr : O} (q : Q v (pass ++ rest)) : Out L rest Q (.ret v) ((L, fr) :: pass) := .inl ⟨pass, List.sublist_cons_self _ _, q⟩

/-- the pot: the cells, a state, a count -/
abbrev potO (C : Addr) (st : Int) (k : Nat) : O := .list [.ref C, .int st, .int k]
abbrev cellsO (ns : List Int) : O := .list (ns.map V.int)

theorem bits_small : ∀ k : Nat, k ≤ 100 → Builtin.Int.intBits (k : Int) ≤ 64 := by decide +kernel
theorem map_set_int (ns : List Int) (i : Nat) (z : Int) : (ns.map V.int).set i (V.int z) = (ns.set i z).map V.int := by rw [List.map_set]

theorem law_draw_ {P C : Addr} {st : Int} {k lim : Nat} {ns : List Int} (h0 : 0 < lim) (h1 : lim ≤ 1000) (hk : k ≤ 100) (hns : ns.length ≤ 63) (ok : Ok A (n + 1))
    (q : ∀ (d : Nat) (st' : Int) (ns' : List Int), d < lim → ns'.length ≤ 63 → Q (.int d) ((P, potO C st' (k + 1)) :: (C, cellsO ns') :: rest)) :
    Cal c A ((P, potO C st k) :: (C, cellsO ns) :: rest) 77 [.ref P, .int lim] Q := by
  refine Cal_of (pass := [(P, potO C st k), (C, cellsO ns)]) (ps := [Str.ofString "pot", Str.ofString "limit"]) (others := [Str.ofString "place", Str.ofString "spot", Str.ofString "here"]) ok (Nat.le_refl _) (fun pm code doc L a ok' => ?_) (by walk_at "bind")
  walk_at "start"
  have hA := ok'.handled
  walk_at "u"
  refine Sub_l (IsL_c (by walk_at "at")) (by decide) rfl (by simp) ?_
  walk_at "u"
  refine SI_list (k := 0) (l := [.ref C, .int st, .int k]) (by decide) (by simp) (by decide) (by walk_at "upd") ?_
  rw [show ([V.ref C, V.int st, V.int ↑k].set (Int.toNat 2) (V.int (↑k + 1))) = [V.ref C, V.int st, V.int ((k + 1 : Nat))] from rfl]
  walk_at "u"
  refine Sub_l (IsL_c (by walk_at "at")) (by decide) rfl (by simp) ?_
  walk_at "u"
  refine T_rlist (l := ns.map V.int) (by walk_at "at") (by rw [List.length_map]; lia) ?_
  have tail : ∀ sp he, GS c (A.deeper (envK 77 pm code doc L a)) [(L, .frame [(Str.ofString "pot", some (V.ref P)), (Str.ofString "limit", some (V.int lim)), (Str.ofString "place", some (V.int k)), (Str.ofString "spot", sp), (Str.ofString "here", he)]),
      (P, .list [V.ref C, V.int st, V.int ((k + 1 : Nat))]), (C, cellsO ns)] (execs ((fnBody 77).drop 3) (envK 77 pm code doc L a)) (Out L rest Q) := by
    intro sp he
    (conv in fnBody _ => whnf)
    simp only [List.drop_succ_cons, List.drop_zero]
    walk_at "u"
    refine Sub_l (IsL_c (by walk_at "at")) (by decide) rfl (by simp) ?_
    walk_at "u"
    refine O_mul (.of_right (by decide)) ?_
    walk_at "u"
    refine O_mul (.of_right (bits_small k hk)) ?_
    walk_at "u"
    refine SI_list (k := 0) (l := [.ref C, .int st, .int ((k + 1 : Nat))]) (by decide) (by simp) (by decide) (by walk_at "upd") ?_
    generalize hst : (st * 16807 + (k : Int) * k + 7) % 2147483647 = st'
    rw [show ([V.ref C, V.int st, V.int ((k + 1 : Nat))].set (Int.toNat 1) (V.int st')) = [V.ref C, V.int st', V.int ((k + 1 : Nat))] from rfl]
    walk_at "u"
    refine Sub_l (IsL_c (by walk_at "at")) (by decide) rfl (by simp) ?_
    walk_at "u"
    refine O_div (by decide) (PyProof.noPylong_small (by decide)) ?_
    walk_at "u"
    refine O_mod (by lia) ?_
    have m0 : 0 ≤ st' / 5 % (lim : Int) := Int.emod_nonneg _ (by lia)
    have m1 : st' / 5 % (lim : Int) < lim := Int.emod_lt_of_pos _ (by lia)
    rw [show st' / 5 % (lim : Int) = ((st' / 5 % (lim : Int)).toNat : Int) by lia]
    refine Out_pass ?_
    exact q _ _ _ (by lia) hns
  walk_at "ite"
  · rename_i hne
    have hlen : 0 < ns.length := by
      rcases ns with _ | ⟨b, ns⟩
      · exact absurd rfl hne
      · simp
    walk_at "u"
    refine Sub_l (IsL_c (by walk_at "at")) (by decide) rfl (by simp) ?_
    walk_at "u"
    refine L_rlist (l := ns.map V.int) (by walk_at "at") (by rw [List.length_map]; lia) ?_
    rw [List.length_map]
    walk_at "u"
    refine O_mod (by lia) ?_
    have m0 : 0 ≤ (k : Int) % (ns.length : Int) := Int.emod_nonneg _ (by lia)
    have m1 : (k : Int) % (ns.length : Int) < ns.length := Int.emod_lt_of_pos _ (by lia)
    generalize (k : Int) % (ns.length : Int) = i at m0 m1 ⊢
    walk_at "u"
    refine Sub_l (IsL_c (by walk_at "at")) (by decide) rfl (by simp) ?_
    walk_at "u"
    have hi : i.toNat < ns.length := by lia
    refine Sub_l (l := ns.map V.int) (y := .int ns[i.toNat]) (IsL_c (by walk_at "at")) m0 (by rw [List.getElem?_map, List.getElem?_eq_getElem hi]; rfl) (by rw [List.length_map]; lia) ?_
    generalize ns[i.toNat] = z
    walk_at "u"
    walk_at "ite"
    · walk_at "u"
      refine O_div (by lia) (PyProof.noPylong_small (by lia)) ?_
      walk_at "u"
      refine Sub_l (IsL_c (by walk_at "at")) (by decide) rfl (by simp) ?_
      walk_at "u"
      refine SI_list (k := 0) (l := ns.map V.int) m0 (by rw [List.length_map]; exact hi) (by lia) (by walk_at "upd") ?_
      rw [map_set_int]
      walk_at "u"
      refine O_mod (by lia) ?_
      have n0 : 0 ≤ z % (lim : Int) := Int.emod_nonneg _ (by lia)
      have n1 : z % (lim : Int) < lim := Int.emod_lt_of_pos _ (by lia)
      rw [show z % (lim : Int) = ((z % (lim : Int)).toNat : Int) by lia]
      refine Out_pass ?_
      exact q _ _ _ (by lia) (by rw [List.length_set]; exact hns)
    · exact S_nil (S_nil (tail _ _))
  · exact S_nil (tail _ _)
end

/-! ## V27 -/
section
variable {c : Cx} {A : Around} {n : Nat} {rest cs cs2 cs3 r : Cs} {Q : V → Cs → Prop} {x : List Nat} {p : Nat}

theorem law_pot_ {sa : Addr} {vs : List Value} (hL : c.s₀.heap.IsList sa vs.toArray) (hi' : ∀ v ∈ vs, ∃ i t, v = .int i t) (hz : vs.length ≤ 63) (ok : Ok A (n + 1))
    (q : ∀ P C st ns, ns.length ≤ 63 → Q (.ref P) ((P, potO C st 0) :: (C, cellsO ns) :: rest)) : Cal c A rest 76 [.ref sa] Q := by
  refine Cal_of (pass := []) (ps := [Str.ofString "script"]) (others := [Str.ofString "cell", Str.ofString "cells", Str.ofString "state"]) ok (Nat.le_refl _) (fun pm code doc L a ok' => ?_) (by walk_at "bind")
  walk_at "start"
  have hA := ok'.handled
  walk_at "u"
  refine S_AsCompK (cl := []) hA (by with_unfolding_all rfl) ?_
  walk_at "u"
  refine Cut_raw hL hi' (by lia) (fun ns hns => ?_)
  have hlen : ns.length ≤ 63 := by lia
  refine ⟨_, fun v => v, fun _ => true, IterV_list, by rw [List.length_map, sizeL]; lia, fun C y hy => T_nil ⟨rfl, rfl⟩, fun C y hy _ => ?_, ?_⟩
  · obtain ⟨i, hi, rfl⟩ := List.mem_map.mp hy
    walk_at "u"
    refine T_int ?_
    exact ⟨rfl, rfl⟩
  rw [map_f_filter (h := V.int) (fun a _ => rfl)]
  walk_at "asg"
  walk_at "u"
  walk_at "for"
  walk_at "u"
  refine ⟨_, IterV_list, ?_⟩
  generalize hcv : V.list (ns.map V.int) = cv
  refine GF_inv (toV := V.int) (by assumption)
    (fun don cs => ∃ o st, cs = [(L, .frame [(Str.ofString "script", some (.ref sa)), (Str.ofString "cell", o), (Str.ofString "cells", some cv), (Str.ofString "state", some (.int st))])])
    ns ?_ ?_ _ ⟨none, 1, rfl⟩
  · rintro don i rst hx _ ⟨o, st, rfl⟩
    walk_at "u"
    refine O_mul (.of_right (by decide)) ?_
    walk_at "u"
    exact ⟨some (.int i), _, rfl⟩
  · rintro _ ⟨o, st, rfl⟩
    subst hcv
    walk_at "u"
    walk_at "compC"
    walk_at "u"
    refine ⟨_, fun v => match v with | .int i => .int ((if i < 0 then -i else i) % 10 ^ (400 : Int).toNat) | v => v, fun _ => true, IterV_list, by rw [List.length_map, sizeL]; lia, fun C y hy => T_nil ⟨rfl, rfl⟩, fun C y hy _ => ?_, ?_⟩
    · obtain ⟨i, hi, rfl⟩ := List.mem_map.mp hy
      walk_at "u"
      refine B_abs ?_
      walk_at "u"
      refine O_pow (by decide) (by decide) (by decide) ?_
      refine O_mod (Int.pow_pos (by decide)) ?_
      exact ⟨rfl, rfl⟩
    rw [map_f_filter (h := fun i => V.int ((if i < 0 then -i else i) % 10 ^ (400 : Int).toNat)) (fun a _ => rfl), show (ns.map fun i => V.int ((if i < 0 then -i else i) % 10 ^ (400 : Int).toNat)) = (ns.map fun i => (if i < 0 then -i else i) % 10 ^ (400 : Int).toNat).map V.int by rw [List.map_map]; rfl]
    intro C
    walk_at "u"
    intro P
    refine .inl ⟨[(P, _), (C, _)], .cons_cons _ (.cons_cons _ (List.nil_sublist _)), ?_⟩
    exact q P C st _ (by rw [List.length_map]; exact hlen)
end

/-! ## V28 -/
section
variable {c : Cx} {A : Around} {n : Nat} {rest cs cs2 cs3 r : Cs} {Q : V → Cs → Prop} {x : List Nat} {p : Nat}

theorem E_Dict1 {env : Env} {k1 v1 : Expr} {pos : Pos} {x1 : List Nat} {y1 : V} (h1 : ∀ d, GE c A ((d, .sd []) :: cs) (eval k1 env) fun z cs' => z = .str x1 ∧ cs' = (d, .sd []) :: cs) (h2 : ∀ d, GE c A ((d, .sd []) :: cs) (eval v1 env) fun z cs' => z = y1 ∧ cs' = (d, .sd []) :: cs)
    (q : Q (.sd [(x1, y1)]) cs) : GE c A cs (eval (.Dict [some k1] [v1] pos) env) Q :=
  E_DictD [(k1, v1)] [(x1, y1)] rfl (by simp) (by simp) (by simp) (fun d => ⟨h1 d, h2 d, trivial⟩) q
theorem E_Dict3 {env : Env} {k1 k2 k3 v1 v2 v3 : Expr} {pos : Pos} (x1 x2 x3 : List Nat) (y1 y2 y3 : V) (hn : [x1, x2, x3].Nodup)
    (h1 : ∀ d, GE c A ((d, .sd []) :: cs) (eval k1 env) fun z cs' => z = .str x1 ∧ cs' = (d, .sd []) :: cs) (g1 : ∀ d, GE c A ((d, .sd []) :: cs) (eval v1 env) fun z cs' => z = y1 ∧ cs' = (d, .sd []) :: cs)
    (h2 : ∀ d, GE c A ((d, .sd []) :: cs) (eval k2 env) fun z cs' => z = .str x2 ∧ cs' = (d, .sd []) :: cs) (g2 : ∀ d, GE c A ((d, .sd []) :: cs) (eval v2 env) fun z cs' => z = y2 ∧ cs' = (d, .sd []) :: cs)
    (h3 : ∀ d, GE c A ((d, .sd []) :: cs) (eval k3 env) fun z cs' => z = .str x3 ∧ cs' = (d, .sd []) :: cs) (g3 : ∀ d, GE c A ((d, .sd []) :: cs) (eval v3 env) fun z cs' => z = y3 ∧ cs' = (d, .sd []) :: cs)
    (q : Q (.sd [(x1, y1), (x2, y2), (x3, y3)]) cs) : GE c A cs (eval (.Dict [some k1, some k2, some k3] [v1, v2, v3] pos) env) Q :=
  E_DictD [(k1, v1), (k2, v2), (k3, v3)] [(x1, y1), (x2, y2), (x3, y3)] rfl (by simp) (by simp) hn (fun d => ⟨h1 d, g1 d, h2 d, g2 d, h3 d, g3 d, trivial⟩) q

theorem s_qb : (Str.ofString "\"\\").cps.toList = [34, 92] := by decide +kernel
theorem s_e : (Str.ofString "é").cps.toList = [233] := by decide +kernel
theorem s_blank : (Str.ofString " ").cps.toList = [32] := by decide +kernel
theorem s_quote : (Str.ofString "\"").cps.toList = [34] := by decide +kernel
theorem s_back : (Str.ofString "\\").cps.toList = [92] := by decide +kernel

theorem law_pieces_q {t : List Nat} (ht : ∀ k ∈ t, k < 256) (hz : t.length ≤ 1000) (ok : Ok A (n + 1)) (q : Q (.list ((t.map esc).map V.bytes)) rest) : Cal c A rest 78 [.str t, .bool false] Q := by
  refine Cal_of (pass := []) (ps := [Str.ofString "text", Str.ofString "is_beyond"]) (others := [Str.ofString "pieces", Str.ofString "sign"]) ok (Nat.le_refl _) (fun pm code doc L a ok' => ?_) (by walk_at "bind")
  walk_at "start"
  have hA := ok'.handled
  walk_at "u"
  intro S
  walk_at "u"
  walk_at "for"
  walk_at "u"
  refine ⟨_, IterV_str, ?_⟩
  refine GF_inv (toV := fun k => V.str [k]) (by assumption)
    (fun don cs => ∃ o, cs = [(S, .list ((don.map esc).map V.bytes)), (L, .frame [(Str.ofString "text", some (.str t)), (Str.ofString "is_beyond", some (.bool false)), (Str.ofString "pieces", some (.ref S)), (Str.ofString "sign", o)])])
    t ?_ ?_ _ ⟨none, rfl⟩
  · rintro don k rst hx _ ⟨o, rfl⟩
    have hk := ht k (by rw [hx]; simp)
    have hl := congrArg List.length hx
    simp at hl
    walk_at "u"
    walk_at "append"
    walk_at "uf"
    rw [s_qb]
    walk_at "ite"
    · rename_i h
      have e : esc k = [92, k] := if_pos (by simpa using h)
      walk_at "uf"
      refine T_bytes (ns := [k]) hA IsL_f (by simp; lia) (by simp) ?_
      walk_at "u"
      refine M_append (by walk_at "upd") (by simp; lia) ?_
      walk_at "u"
      exact ⟨some (.str [k]), by rw [List.map_append, List.map_append]; simp [e, bs]⟩
    · rename_i h
      have e : esc k = [k] := if_neg (by simpa using h)
      walk_at "uf"
      refine T_bytes (ns := [k]) hA IsL_f (by simp; lia) (by simp) ?_
      walk_at "u"
      refine M_append (by walk_at "upd") (by simp; lia) ?_
      walk_at "u"
      exact ⟨some (.str [k]), by rw [List.map_append, List.map_append]; simp [e, bs]⟩
  · rintro _ ⟨o, rfl⟩
    walk_at "u"
    exact q

theorem pct_e : [195, 169].map pct = [[37, 67, 51], [37, 65, 57]] := by decide
theorem law_pieces_e {t : List Nat} (ht : ∀ k ∈ t, k = 233 ∨ (isTok k = true ∧ k ∉ [42, 39, 37])) (hz : t.length ≤ 1000) (ok : Ok A (n + 1)) (q : Q (.list (((enc t).map pct).map V.bytes)) rest) : Cal c A rest 78 [.str t, .bool true] Q := by
  refine Cal_of (pass := []) (ps := [Str.ofString "text", Str.ofString "is_beyond"]) (others := [Str.ofString "pieces", Str.ofString "sign"]) ok (Nat.le_refl _) (fun pm code doc L a ok' => ?_) (by walk_at "bind")
  walk_at "start"
  have hA := ok'.handled
  walk_at "u"
  intro S
  walk_at "u"
  walk_at "for"
  walk_at "u"
  refine ⟨_, IterV_str, ?_⟩
  refine GF_inv (toV := fun k => V.str [k]) (by assumption)
    (fun don cs => ∃ o, cs = [(S, .list (((enc don).map pct).map V.bytes)), (L, .frame [(Str.ofString "text", some (.str t)), (Str.ofString "is_beyond", some (.bool true)), (Str.ofString "pieces", some (.ref S)), (Str.ofString "sign", o)])])
    t ?_ ?_ _ ⟨none, rfl⟩
  · rintro don k rst hx _ ⟨o, rfl⟩
    have hk := ht k (by rw [hx]; simp)
    have hl := congrArg List.length hx
    simp at hl
    have hel : (enc don).length ≤ 2 * don.length := by
      clear hx hl
      induction don with
      | nil => simp [enc]
      | cons a don ih => rw [enc_cons, List.length_append, List.length_cons]; have : (enc1 a).length ≤ 2 := by (unfold enc1; split <;> simp)
                         lia
    have henc : enc (don ++ [k]) = enc don ++ enc1 k := by rw [enc_app]; simp [enc]
    walk_at "u"
    rw [s_e]
    rcases hk with rfl | ⟨h1, h2⟩
    · refine Ite_dt rfl ?_
      walk_at "u"
      refine MethV_of PySem.F.plainAttrs_list PySem.F.slot_list_extend PySem.F.type_list_extend (OfT_rlist (by walk_at "at")) ?_
      walk_at "uf"
      refine M_extend IsL_f (by walk_at "upd") (by simp; lia) ?_
      walk_at "u"
      refine ⟨some (.str [233]), ?_⟩
      rw [henc, show enc1 233 = [195, 169] from rfl, List.map_append, pct_e, List.map_append]
      rfl
    · have hne : k ≠ 233 := by rintro rfl; exact absurd h1 (by decide)
      have e : enc1 k = [k] := if_neg hne
      have e2 : pct k = [k] := if_pos ⟨h1, h2⟩
      refine Ite_df (by simp; exact hne) ?_
      walk_at "u"
      walk_at "append"
      walk_at "u1"
      walk_at "u1"
      have hne3 : k ≠ 32 ∧ k ≠ 34 ∧ k ≠ 92 := ⟨by rintro rfl; exact absurd h1 (by decide), by rintro rfl; exact absurd h1 (by decide), by rintro rfl; exact absurd h1 (by decide)⟩
      refine E_Dict3 (Str.ofString " ").cps.toList (Str.ofString "\"").cps.toList (Str.ofString "\\").cps.toList (.bytes (bs [37, 50, 48])) (.bytes (bs [37, 50, 50])) (.bytes (bs [37, 53, 67])) (by decide +kernel)
        (fun d => E_str ⟨rfl, rfl⟩) (fun d => E_bytes ⟨rfl, rfl⟩) (fun d => E_str ⟨rfl, rfl⟩) (fun d => E_bytes ⟨rfl, rfl⟩) (fun d => E_str ⟨rfl, rfl⟩) (fun d => E_bytes ⟨rfl, rfl⟩) ?_
      refine MethV_of PySem.F.plainAttrs_dict PySem.F.slot_dict_get PySem.F.type_dict_get (OfT_S IsS_f) ?_
      walk_at "uf"
      refine T_bytes (ns := [k]) hA IsL_f (by simp; have := tok_lt h1; lia) (by simp) ?_
      walk_at "u"
      refine M_get0S IsS_f (by show [(Str.ofString " ").cps.toList, (Str.ofString "\"").cps.toList, (Str.ofString "\\").cps.toList].Nodup; decide +kernel) (by rw [s_blank, s_quote, s_back]; simp; lia) ?_
      refine M_append (by walk_at "upd") (by simp; lia) ?_
      walk_at "u"
      exact ⟨some (.str [k]), by rw [henc, e, List.map_append, List.map_append]; simp [e2]⟩
  · rintro _ ⟨o, rfl⟩
    walk_at "u"
    exact q
end

/-! ## V29 -/
section
variable {c : Cx} {A : Around} {n : Nat} {rest cs cs2 cs3 r : Cs} {Q : V → Cs → Prop} {x : List Nat} {p : Nat}

/-- rows as the law asks for them -/
structure Good (room : Nat) (gs : List (List (List Nat))) : Prop where
  ne : ∀ g ∈ gs, g ≠ []
  pos : ∀ g ∈ gs, ∀ p ∈ g, p ≠ []
  fit : ∀ g ∈ gs, g.flatten.length ≤ room
  full : ∀ k, k + 1 < gs.length → ∀ p r, gs.getD (k + 1) [] = p :: r → (gs.getD k []).flatten.length + p.length > room
  two : 2 ≤ gs.length
  ten : gs.length ≤ 10
  few : gs.flatten.length ≤ 4096
  small : ∀ g ∈ gs, ∀ p ∈ g, p.length ≤ 100

theorem drop_gs {gs : List (List (List Nat))} {k : Nat} (h : k < gs.length) : (gs.drop k).flatten = gs.getD k [] ++ (gs.drop (k + 1)).flatten := by
  rw [List.drop_eq_getElem_cons h, List.flatten_cons, List.getD_eq_getElem?_getD, List.getElem?_eq_getElem h]; rfl
theorem getD_mem {gs : List (List (List Nat))} {k : Nat} (h : k < gs.length) : gs.getD k [] ∈ gs := by
  rw [List.getD_eq_getElem?_getD, List.getElem?_eq_getElem h]; exact List.getElem_mem h
theorem head_gs {room : Nat} {gs : List (List (List Nat))} (hg : Good room gs) {k : Nat} {p : List Nat} {r : List (List Nat)} (h : (gs.drop (k + 1)).flatten = p :: r) : (gs.getD k []).flatten.length + p.length > room := by
  rcases Nat.lt_or_ge (k + 1) gs.length with hk | hk
  · have e := drop_gs hk
    have hne := hg.ne _ (getD_mem hk)
    rw [h] at e
    cases hgd : gs.getD (k + 1) [] with
    | nil => exact absurd hgd hne
    | cons p' r' =>
      rw [hgd] at e
      have := hg.full k hk p' r' hgd
      simp only [List.cons_append, List.cons.injEq] at e
      rw [e.1]; exact this
  · rw [List.drop_of_length_le hk] at h; cases h
theorem take_flat_le (g : List (List Nat)) (j : Nat) : (g.take j).flatten.length ≤ g.flatten.length := flat_le g j
theorem cut_lead {a b : List Nat} {v : Int} (hv : v = a.length) : cutL (a ++ b) none (some v) = a := by
  rw [cut0 (j := a.length) hv]; simp
theorem normPos {m : Nat} {v : Int} (h : 0 ≤ v) : normL m (some v) = some v := by show some (if v < 0 then v + m else v) = some v; rw [if_neg (by lia)]
theorem norm1 {m : Nat} {v : Int} (h : v = -1) : normL m (some v) = some ((m : Int) - 1) := by subst h; show some (if (-1 : Int) < 0 then -1 + (m : Int) else -1) = _; rw [if_pos (by decide), Int.add_comm]; rfl

theorem law_parts_right_Q {name : List Nat} {gs : List (List (List Nat))} (hn : name.length ≤ 40) (hg : Good (66 - name.length) gs) (ok : Ok A (n + 2)) (q : Q (.bool true) rest) :
    Cal c A rest 79 [.list (((List.range gs.length).map (partQ name gs)).map V.bytes), .bytes name, (V.list (gs.flatten.map V.bytes)), .bool false] Q := by
  refine Cal_of (pass := []) (ps := [Str.ofString "rows", Str.ofString "name", Str.ofString "pieces", Str.ofString "is_beyond"]) (others := [Str.ofString "room", Str.ofString "left", Str.ofString "at", Str.ofString "lead", Str.ofString "worth", Str.ofString "size"]) ok (Nat.le_refl _) (fun pm code doc L a ok' => ?_) (by walk_at "bind")
  walk_at "start"
  have hA := ok'.handled
  have hten := hg.ten
  have htwo := hg.two
  have hfew := hg.few
  walk_at "uf"
  refine T_listOf IsL_f (by rw [List.length_map]; lia) (fun S => ?_)
  walk_at "u"
  walk_at "for"
  walk_at "u"
  refine L_list (by rw [List.length_map, List.length_map, List.length_range]; lia) ?_
  walk_at "u"
  refine T_range1 ?_
  rw [List.length_map, List.length_map, List.length_range]
  generalize hrw : V.list (((List.range gs.length).map (partQ name gs)).map V.bytes) = rw_
  generalize hpc : (V.list (gs.flatten.map V.bytes)) = pc_
  refine rng_ex hA rfl (by lia) (fun k cs => ∃ o1 o2 o3 o4, cs = [(S, .list ((gs.drop k).flatten.map V.bytes)), (L, .frame [(Str.ofString "rows", some rw_), (Str.ofString "name", some (.bytes name)), (Str.ofString "pieces", some pc_), (Str.ofString "is_beyond", some (.bool false)),
    (Str.ofString "room", some (.int (66 - (name.length : Int)))), (Str.ofString "left", some (.ref S)), (Str.ofString "at", o1), (Str.ofString "lead", o2), (Str.ofString "worth", o3), (Str.ofString "size", o4)])]) ?_ ?_ ⟨none, none, none, none, by rw [List.drop_zero]⟩
  · rintro k hk _ ⟨o1, o2, o3, o4, rfl⟩
    have hd := drop_gs hk
    have hmem := getD_mem hk
    have hfit := hg.fit _ hmem
    have hrow : ∀ cs, IsL c cs rw_ (((List.range gs.length).map (partQ name gs)).map V.bytes) := fun cs => by rw [← hrw]; exact IsL_f
    have hrk : (((List.range gs.length).map (partQ name gs)).map V.bytes)[(k : Int).toNat]? = some (.bytes (partQ name gs k)) := by
      show (((List.range gs.length).map (partQ name gs)).map V.bytes)[k]? = _
      rw [List.getElem?_map, List.getElem?_map, List.getElem?_range hk]; rfl
    have hrl : (((List.range gs.length).map (partQ name gs)).map V.bytes).length ≤ 16777216 := by rw [List.length_map, List.length_map, List.length_range]; lia
    have hhead : ∀ p r, (gs.drop (k + 1)).flatten = p :: r → (gs.getD k []).flatten.length + p.length > 66 - name.length := fun p r h => head_gs hg h
    have hposg := hg.pos _ hmem
    have hsmg := hg.small _ hmem
    have hrestlen : ((gs.drop (k + 1)).flatten).length ≤ 4096 := by
      have h1 : gs.flatten = (gs.take (k + 1)).flatten ++ (gs.drop (k + 1)).flatten := by rw [← List.flatten_append, List.take_append_drop]
      rw [h1, List.length_append] at hfew; lia
    have hglen : (gs.getD k []).length ≤ 4096 := by
      have h1 : gs.flatten = (gs.take k).flatten ++ (gs.drop k).flatten := by rw [← List.flatten_append, List.take_append_drop]
      rw [h1, hd, List.length_append, List.length_append] at hfew; lia
    have hrs : ∀ p ∈ (gs.drop (k + 1)).flatten, p.length ≤ 100 := by
      intro p hp
      obtain ⟨g', hg', hp'⟩ := List.mem_flatten.mp hp
      exact hg.small _ (List.mem_of_mem_drop hg') p hp'
    unfold partQ at hrk
    rw [hd]
    generalize gs.getD k [] = g at hfit hhead hposg hsmg hrk hglen ⊢
    generalize (gs.drop (k + 1)).flatten = rs at hhead hrestlen hrs ⊢
    generalize hF : g.flatten = F at hfit hhead hrk
    walk_at "u"
    walk_at "comp"
    walk_at "u"
    refine T_strInt (by lia) ?_
    refine ⟨_, fun v => match v with | .str [i] => .int i | v => v, fun _ => true, IterV_str, by simp [sizeL], fun C y hy => T_nil ⟨rfl, rfl⟩, fun C y hy _ => ?_, ?_⟩
    · obtain ⟨i, hi, rfl⟩ := List.mem_map.mp hy
      walk_at "u"
      exact ⟨rfl, rfl⟩
    refine T_bytes (ns := [48 + k]) hA IsL_f (by simp; lia) (by simp) ?_
    walk_at "u"
    refine Sub_l (hrow _) (by lia) hrk hrl ?_
    walk_at "u"
    generalize hlead : name ++ bs [42] ++ [48 + k] ++ bs [61, 34] = lead
    have hll : lead.length = name.length + 4 := by rw [← hlead]; simp [bs]
    have hpart : ((((name ++ [42]) ++ [48 + k]) ++ [61, 34]) ++ F) ++ [34] = lead ++ F ++ [34] := by rw [← hlead]; rfl
    rw [hpart] at hrk ⊢
    refine Cut_bytesN (by rw [normPos (by lia)]; simp [okPart]) (by rw [norm1 (by decide)]; simp [okPart]; lia) (by simp; lia) ?_
    have hw : cutL (lead ++ F ++ [34]) (normL (lead ++ F ++ [34]).length (some (lead.length : Int))) (normL (lead ++ F ++ [34]).length (some (-1))) = F := by
      rw [normPos (by lia), norm1 rfl, cutN (i := lead.length) (j := lead.length + F.length) rfl (by simp; lia), List.append_assoc, List.drop_left, show lead.length + F.length - lead.length = F.length by lia]
      simp
    rw [hw]
    walk_at "u"
    refine Sub_l (hrow _) (by lia) hrk hrl ?_
    walk_at "u"
    refine Cut_bytes (by simp [okPart]) (by simp [okPart]) (by simp; lia) ?_
    rw [show cutL (lead ++ F ++ [34]) none (some (lead.length : Int)) = lead by rw [List.append_assoc, cut_lead rfl]]
    walk_at "u"
    refine Ite_df (fun h => h rfl) ?_
    walk_at "u"
    refine Sub_l (hrow _) (by lia) hrk hrl ?_
    walk_at "u"
    refine Cut_bytesN (by rw [norm1 (by decide)]; simp [okPart]; lia) (by simp [okPart, normL]) (by simp; lia) ?_
    have hq : cutL (lead ++ F ++ [34]) (normL (lead ++ F ++ [34]).length (some (-1))) (normL (lead ++ F ++ [34]).length none) = [34] := by
      rw [norm1 rfl]
      show cutL _ (some _) none = _
      rw [cutD (j := (lead ++ F).length) (by simp; lia)]
      simp
    rw [hq]
    walk_at "u"
    walk_at "while"
    refine GW_inv (fun m cs => ∃ j, j + m = g.length ∧ cs = [(S, .list ((g.drop j ++ rs).map V.bytes)), (L, .frame [(Str.ofString "rows", some rw_), (Str.ofString "name", some (.bytes name)), (Str.ofString "pieces", some pc_), (Str.ofString "is_beyond", some (.bool false)),
      (Str.ofString "room", some (.int (66 - (name.length : Int)))), (Str.ofString "left", some (.ref S)), (Str.ofString "at", some (.int k)), (Str.ofString "lead", some (.bytes lead)), (Str.ofString "worth", some (.bytes F)), (Str.ofString "size", some (.int (g.take j).flatten.length))])]) ?_ g.length _ ⟨0, by lia, by rw [List.drop_zero]; rfl⟩
    rintro m _ ⟨j, hj, rfl⟩
    walk_at "u"
    refine T_rlist (l := (g.drop j ++ rs).map V.bytes) (by walk_at "at") (by simp; lia) ?_
    rcases Nat.lt_or_ge j g.length with hjl | hjl
    · have hdj : g.drop j = g[j] :: g.drop (j + 1) := List.drop_eq_getElem_cons hjl
      have hpj := hposg _ (List.getElem_mem hjl)
      have hpl : 0 < g[j].length := List.length_pos_iff.mpr hpj
      have hps := hsmg _ (List.getElem_mem hjl)
      have htk := take_succ_flat g hjl
      rw [List.getD_eq_getElem?_getD, List.getElem?_eq_getElem hjl] at htk
      have htl := take_flat_le g (j + 1)
      rw [htk, hF, List.length_append] at htl
      simp only [Option.getD_some] at htk htl
      have hcut : cutL F (some ((g.take j).flatten.length : Int)) (some (((g.take j).flatten.length : Int) + g[j].length)) = g[j] := by
        have hx : F = (g.take j).flatten ++ (g[j] ++ (g.drop (j + 1)).flatten) := by
          rw [← hF]
          conv => lhs; rw [← List.take_append_drop j g, List.flatten_append, hdj, List.flatten_cons]
        have := cut_mid hx rfl
        rw [show (((g.take j).flatten.length + g[j].length : Nat) : Int) = ((g.take j).flatten.length : Int) + g[j].length by lia] at this
        exact this
      rw [hdj, List.cons_append, List.map_cons]
      generalize g[j] = pj at hpl hps htk htl hcut hpj ⊢
      generalize (g.take j).flatten = tk at htk htl hcut ⊢
      refine Ite_dt (by simp) ?_
      walk_at "u"
      refine Sub_l (IsL_c (by walk_at "at")) (by decide) rfl (by simp; lia) ?_
      walk_at "u"
      refine Cut_bytes (by simp [okPart]) (by simp [okPart]; lia) (by lia) ?_
      rw [hcut]
      walk_at "u"
      refine Sub_l (IsL_c (by walk_at "at")) (by decide) rfl (by simp; lia) ?_
      walk_at "u"
      refine Ite_df (fun h => h rfl) ?_
      walk_at "u"
      refine MethV_of PySem.F.plainAttrs_list PySem.F.slot_list_pop PySem.F.type_list_pop (OfT_rlist (by walk_at "at")) ?_
      walk_at "u"
      refine M_pop0 (by walk_at "upd") (by simp; lia) ?_
      walk_at "u"
      refine ⟨m - 1, by lia, j + 1, by lia, ?_⟩
      rw [htk, List.length_append]
      rfl
    · have e1 : g.drop j = [] := List.drop_of_length_le hjl
      have e2 : g.take j = g := List.take_of_length_le hjl
      rw [e1, e2, hF, List.nil_append]
      cases rs with
      | nil =>
        refine Ite_df (by simp) ?_
        walk_at "u"
        refine T_rlist (l := ([] : List (List Nat)).map V.bytes) (by walk_at "at") (by simp) ?_
        walk_at "u"
        exact ⟨some (.int k), some (.bytes lead), some (.bytes F), some (.int F.length), rfl⟩
      | cons p1 r1 =>
        have hh := hhead p1 r1 rfl
        have hp1 := hrs p1 (by simp)
        simp only [List.length_cons] at hrestlen
        refine Ite_dt (by simp) ?_
        walk_at "u"
        refine T_rlist (l := (p1 :: r1).map V.bytes) (by walk_at "at") (by simp; lia) ?_
        refine Ite_dt (by simp) ?_
        walk_at "u"
        refine Sub_l (l := (p1 :: r1).map V.bytes) (y := .bytes p1) (IsL_c (by walk_at "at")) (by decide) rfl (by simp; lia) ?_
        walk_at "u"
        exact ⟨some (.int k), some (.bytes lead), some (.bytes F), some (.int F.length), rfl⟩
  · rintro _ ⟨o1, o2, o3, o4, rfl⟩
    rw [List.drop_of_length_le (Nat.le_refl _)]
    have hrow : rw_ = V.list (((List.range gs.length).map (partQ name gs)).map V.bytes) := hrw.symm
    subst hrow
    walk_at "uf"
    refine C_eqNil ok'.unit (IsL_c (by walk_at "at")) IsL_f ?_
    walk_at "u"
    refine L_list (by rw [List.length_map, List.length_map, List.length_range]; lia) ?_
    rw [List.length_map, List.length_map, List.length_range]
    walk_at "u"
    refine qB q ?_
    rw [decide_eq_true_iff]; lia

theorem law_parts_right_E {name : List Nat} {gs : List (List (List Nat))} {ps : List (List Nat)} (hgs : gs.flatten = leadN :: ps) (hn : name.length ≤ 40) (hg : Good (66 - name.length) gs) (ok : Ok A (n + 2)) (q : Q (.bool true) rest) :
    Cal c A rest 79 [.list (((List.range gs.length).map (partE name gs)).map V.bytes), .bytes name, (V.list (ps.map V.bytes)), .bool true] Q := by
  refine Cal_of (pass := []) (ps := [Str.ofString "rows", Str.ofString "name", Str.ofString "pieces", Str.ofString "is_beyond"]) (others := [Str.ofString "room", Str.ofString "left", Str.ofString "at", Str.ofString "lead", Str.ofString "worth", Str.ofString "size"]) ok (Nat.le_refl _) (fun pm code doc L a ok' => ?_) (by walk_at "bind")
  walk_at "start"
  have hA := ok'.handled
  have hten := hg.ten
  have htwo := hg.two
  have hfew := hg.few
  walk_at "uf"
  have hpl2 : ps.length ≤ 4096 := by rw [hgs, List.length_cons] at hfew; lia
  walk_at "uf"
  refine O_addL IsL_f IsL_f (by simp; lia) (fun S => ?_)
  rw [show ([V.bytes (bs [117, 116, 102, 45, 56, 39, 39])] ++ ps.map V.bytes) = (gs.drop 0).flatten.map V.bytes by rw [List.drop_zero, hgs]; rfl]
  walk_at "u"
  walk_at "for"
  walk_at "u"
  refine L_list (by rw [List.length_map, List.length_map, List.length_range]; lia) ?_
  walk_at "u"
  refine T_range1 ?_
  rw [List.length_map, List.length_map, List.length_range]
  generalize hrw : V.list (((List.range gs.length).map (partE name gs)).map V.bytes) = rw_
  generalize hpc : (V.list (ps.map V.bytes)) = pc_
  refine rng_ex hA rfl (by lia) (fun k cs => ∃ o1 o2 o3 o4, cs = [(S, .list ((gs.drop k).flatten.map V.bytes)), (L, .frame [(Str.ofString "rows", some rw_), (Str.ofString "name", some (.bytes name)), (Str.ofString "pieces", some pc_), (Str.ofString "is_beyond", some (.bool true)),
    (Str.ofString "room", some (.int (66 - (name.length : Int)))), (Str.ofString "left", some (.ref S)), (Str.ofString "at", o1), (Str.ofString "lead", o2), (Str.ofString "worth", o3), (Str.ofString "size", o4)])]) ?_ ?_ ⟨none, none, none, none, by rw [List.drop_zero]⟩
  · rintro k hk _ ⟨o1, o2, o3, o4, rfl⟩
    have hd := drop_gs hk
    have hmem := getD_mem hk
    have hfit := hg.fit _ hmem
    have hrow : ∀ cs, IsL c cs rw_ (((List.range gs.length).map (partE name gs)).map V.bytes) := fun cs => by rw [← hrw]; exact IsL_f
    have hrk : (((List.range gs.length).map (partE name gs)).map V.bytes)[(k : Int).toNat]? = some (.bytes (partE name gs k)) := by
      show (((List.range gs.length).map (partE name gs)).map V.bytes)[k]? = _
      rw [List.getElem?_map, List.getElem?_map, List.getElem?_range hk]; rfl
    have hrl : (((List.range gs.length).map (partE name gs)).map V.bytes).length ≤ 16777216 := by rw [List.length_map, List.length_map, List.length_range]; lia
    have hhead : ∀ p r, (gs.drop (k + 1)).flatten = p :: r → (gs.getD k []).flatten.length + p.length > 66 - name.length := fun p r h => head_gs hg h
    have hposg := hg.pos _ hmem
    have hsmg := hg.small _ hmem
    have hrestlen : ((gs.drop (k + 1)).flatten).length ≤ 4096 := by
      have h1 : gs.flatten = (gs.take (k + 1)).flatten ++ (gs.drop (k + 1)).flatten := by rw [← List.flatten_append, List.take_append_drop]
      rw [h1, List.length_append] at hfew; lia
    have hglen : (gs.getD k []).length ≤ 4096 := by
      have h1 : gs.flatten = (gs.take k).flatten ++ (gs.drop k).flatten := by rw [← List.flatten_append, List.take_append_drop]
      rw [h1, hd, List.length_append, List.length_append] at hfew; lia
    have hrs : ∀ p ∈ (gs.drop (k + 1)).flatten, p.length ≤ 100 := by
      intro p hp
      obtain ⟨g', hg', hp'⟩ := List.mem_flatten.mp hp
      exact hg.small _ (List.mem_of_mem_drop hg') p hp'
    unfold partE at hrk
    rw [hd]
    generalize gs.getD k [] = g at hfit hhead hposg hsmg hrk hglen ⊢
    generalize (gs.drop (k + 1)).flatten = rs at hhead hrestlen hrs ⊢
    generalize hF : g.flatten = F at hfit hhead hrk
    walk_at "u"
    walk_at "comp"
    walk_at "u"
    refine T_strInt (by lia) ?_
    refine ⟨_, fun v => match v with | .str [i] => .int i | v => v, fun _ => true, IterV_str, by simp [sizeL], fun C y hy => T_nil ⟨rfl, rfl⟩, fun C y hy _ => ?_, ?_⟩
    · obtain ⟨i, hi, rfl⟩ := List.mem_map.mp hy
      walk_at "u"
      exact ⟨rfl, rfl⟩
    refine T_bytes (ns := [48 + k]) hA IsL_f (by simp; lia) (by simp) ?_
    walk_at "u"
    refine Sub_l (hrow _) (by lia) hrk hrl ?_
    walk_at "u"
    generalize hlead : name ++ bs [42] ++ [48 + k] ++ bs [42, 61] = lead
    have hll : lead.length = name.length + 4 := by rw [← hlead]; simp [bs]
    have hpart : (((name ++ [42]) ++ [48 + k]) ++ [42, 61]) ++ F = lead ++ F := by rw [← hlead]; rfl
    rw [hpart] at hrk ⊢
    refine Cut_bytesN (by rw [normPos (by lia)]; simp [okPart]) (by simp [okPart, normL]) (by simp; lia) ?_
    have hw : cutL (lead ++ F) (normL (lead ++ F).length (some (lead.length : Int))) (normL (lead ++ F).length none) = F := by
      rw [normPos (by lia)]
      show cutL _ (some _) none = _
      rw [cutD (j := lead.length) rfl, List.drop_left]
    rw [hw]
    walk_at "u"
    refine Sub_l (hrow _) (by lia) hrk hrl ?_
    walk_at "u"
    refine Cut_bytes (by simp [okPart]) (by simp [okPart]) (by simp; lia) ?_
    rw [show cutL (lead ++ F) none (some (lead.length : Int)) = lead by rw [cut_lead rfl]]
    walk_at "u"
    refine Ite_df (fun h => h rfl) ?_
    walk_at "u"
    walk_at "while"
    refine GW_inv (fun m cs => ∃ j, j + m = g.length ∧ cs = [(S, .list ((g.drop j ++ rs).map V.bytes)), (L, .frame [(Str.ofString "rows", some rw_), (Str.ofString "name", some (.bytes name)), (Str.ofString "pieces", some pc_), (Str.ofString "is_beyond", some (.bool true)),
      (Str.ofString "room", some (.int (66 - (name.length : Int)))), (Str.ofString "left", some (.ref S)), (Str.ofString "at", some (.int k)), (Str.ofString "lead", some (.bytes lead)), (Str.ofString "worth", some (.bytes F)), (Str.ofString "size", some (.int (g.take j).flatten.length))])]) ?_ g.length _ ⟨0, by lia, by rw [List.drop_zero]; rfl⟩
    rintro m _ ⟨j, hj, rfl⟩
    walk_at "u"
    refine T_rlist (l := (g.drop j ++ rs).map V.bytes) (by walk_at "at") (by simp; lia) ?_
    rcases Nat.lt_or_ge j g.length with hjl | hjl
    · have hdj : g.drop j = g[j] :: g.drop (j + 1) := List.drop_eq_getElem_cons hjl
      have hpj := hposg _ (List.getElem_mem hjl)
      have hpl : 0 < g[j].length := List.length_pos_iff.mpr hpj
      have hps := hsmg _ (List.getElem_mem hjl)
      have htk := take_succ_flat g hjl
      rw [List.getD_eq_getElem?_getD, List.getElem?_eq_getElem hjl] at htk
      have htl := take_flat_le g (j + 1)
      rw [htk, hF, List.length_append] at htl
      simp only [Option.getD_some] at htk htl
      have hcut : cutL F (some ((g.take j).flatten.length : Int)) (some (((g.take j).flatten.length : Int) + g[j].length)) = g[j] := by
        have hx : F = (g.take j).flatten ++ (g[j] ++ (g.drop (j + 1)).flatten) := by
          rw [← hF]
          conv => lhs; rw [← List.take_append_drop j g, List.flatten_append, hdj, List.flatten_cons]
        have := cut_mid hx rfl
        rw [show (((g.take j).flatten.length + g[j].length : Nat) : Int) = ((g.take j).flatten.length : Int) + g[j].length by lia] at this
        exact this
      rw [hdj, List.cons_append, List.map_cons]
      generalize g[j] = pj at hpl hps htk htl hcut hpj ⊢
      generalize (g.take j).flatten = tk at htk htl hcut ⊢
      refine Ite_dt (by simp) ?_
      walk_at "u"
      refine Sub_l (IsL_c (by walk_at "at")) (by decide) rfl (by simp; lia) ?_
      walk_at "u"
      refine Cut_bytes (by simp [okPart]) (by simp [okPart]; lia) (by lia) ?_
      rw [hcut]
      walk_at "u"
      refine Sub_l (IsL_c (by walk_at "at")) (by decide) rfl (by simp; lia) ?_
      walk_at "u"
      refine Ite_df (fun h => h rfl) ?_
      walk_at "u"
      refine MethV_of PySem.F.plainAttrs_list PySem.F.slot_list_pop PySem.F.type_list_pop (OfT_rlist (by walk_at "at")) ?_
      walk_at "u"
      refine M_pop0 (by walk_at "upd") (by simp; lia) ?_
      walk_at "u"
      refine ⟨m - 1, by lia, j + 1, by lia, ?_⟩
      rw [htk, List.length_append]
      rfl
    · have e1 : g.drop j = [] := List.drop_of_length_le hjl
      have e2 : g.take j = g := List.take_of_length_le hjl
      rw [e1, e2, hF, List.nil_append]
      cases rs with
      | nil =>
        refine Ite_df (by simp) ?_
        walk_at "u"
        refine T_rlist (l := ([] : List (List Nat)).map V.bytes) (by walk_at "at") (by simp) ?_
        walk_at "u"
        exact ⟨some (.int k), some (.bytes lead), some (.bytes F), some (.int F.length), rfl⟩
      | cons p1 r1 =>
        have hh := hhead p1 r1 rfl
        have hp1 := hrs p1 (by simp)
        simp only [List.length_cons] at hrestlen
        refine Ite_dt (by simp) ?_
        walk_at "u"
        refine T_rlist (l := (p1 :: r1).map V.bytes) (by walk_at "at") (by simp; lia) ?_
        refine Ite_dt (by simp) ?_
        walk_at "u"
        refine Sub_l (l := (p1 :: r1).map V.bytes) (y := .bytes p1) (IsL_c (by walk_at "at")) (by decide) rfl (by simp; lia) ?_
        walk_at "u"
        exact ⟨some (.int k), some (.bytes lead), some (.bytes F), some (.int F.length), rfl⟩
  · rintro _ ⟨o1, o2, o3, o4, rfl⟩
    rw [List.drop_of_length_le (Nat.le_refl _)]
    have hrow : rw_ = V.list (((List.range gs.length).map (partE name gs)).map V.bytes) := hrw.symm
    subst hrow
    walk_at "uf"
    refine C_eqNil ok'.unit (IsL_c (by walk_at "at")) IsL_f ?_
    walk_at "u"
    refine L_list (by rw [List.length_map, List.length_map, List.length_range]; lia) ?_
    rw [List.length_map, List.length_map, List.length_range]
    walk_at "u"
    refine qB q ?_
    rw [decide_eq_true_iff]; lia
end

/-! ## V30 -/
section

/-! ### the plain law: pieces in rows -/
theorem rowsOf_flat (room : Nat) : ∀ (ps cur : List (List Nat)), (rowsOf room cur ps).flatten = cur ++ ps
  | [], cur => by simp [rowsOf]
  | p :: ps, cur => by
    rw [rowsOf]
    split
    · rw [List.flatten_cons, rowsOf_flat room ps [p]]; simp
    · rw [rowsOf_flat room ps (cur ++ [p])]; simp
theorem rowsOf_head (room : Nat) : ∀ (ps cur : List (List Nat)) (p : List Nat), ∃ r, (rowsOf room (p :: cur) ps).getD 0 [] = p :: r
  | [], cur, p => ⟨cur, rfl⟩
  | q :: ps, cur, p => by
    rw [rowsOf]
    split
    · exact ⟨cur, rfl⟩
    · rw [List.cons_append]; exact rowsOf_head room ps (cur ++ [q]) p
theorem rowsOf_ne (room : Nat) : ∀ (ps cur : List (List Nat)), cur ≠ [] → ∀ g ∈ rowsOf room cur ps, g ≠ []
  | [], cur, h => by intro g hg; rw [rowsOf, List.mem_singleton] at hg; subst hg; exact h
  | p :: ps, cur, h => by
    intro g hg
    rw [rowsOf] at hg
    split at hg
    · rcases List.mem_cons.mp hg with rfl | hg
      · exact h
      · exact rowsOf_ne room ps [p] (by simp) g hg
    · exact rowsOf_ne room ps (cur ++ [p]) (by simp) g hg
theorem rowsOf_fit (room : Nat) : ∀ (ps cur : List (List Nat)), cur.flatten.length ≤ room → (∀ p ∈ ps, p.length ≤ room) → ∀ g ∈ rowsOf room cur ps, g.flatten.length ≤ room
  | [], cur, h, _ => by intro g hg; rw [rowsOf, List.mem_singleton] at hg; subst hg; exact h
  | p :: ps, cur, h, hp => by
    intro g hg
    rw [rowsOf] at hg
    split at hg
    · rcases List.mem_cons.mp hg with rfl | hg
      · exact h
      · exact rowsOf_fit room ps [p] (by have := hp p (by simp); simpa using this) (fun q hq => hp q (by simp [hq])) g hg
    · rename_i hh
      exact rowsOf_fit room ps (cur ++ [p]) (by rw [List.flatten_append, List.length_append]; simp at hh ⊢; lia) (fun q hq => hp q (by simp [hq])) g hg
theorem rowsOf_full (room : Nat) : ∀ (ps cur : List (List Nat)) (k : Nat), k + 1 < (rowsOf room cur ps).length → ∀ p r, (rowsOf room cur ps).getD (k + 1) [] = p :: r → ((rowsOf room cur ps).getD k []).flatten.length + p.length > room
  | [], cur, k => by intro h; rw [rowsOf, List.length_singleton] at h; lia
  | q :: ps, cur, k => by
    intro h p r
    rw [rowsOf] at h ⊢
    split
    · rename_i hh
      rw [if_pos hh, List.length_cons] at h
      cases k with
      | zero =>
        rw [List.getD_cons_succ, List.getD_cons_zero]
        intro e
        obtain ⟨r', e'⟩ := rowsOf_head room ps [] q
        rw [e'] at e
        cases e
        exact hh
      | succ k =>
        rw [List.getD_cons_succ, List.getD_cons_succ]
        exact rowsOf_full room ps [q] k (by lia) p r
    · rename_i hh
      rw [if_neg hh] at h
      exact rowsOf_full room ps (cur ++ [q]) k h p r
theorem rowsOf_pos (room : Nat) (ps cur : List (List Nat)) : 0 < (rowsOf room cur ps).length := by
  induction ps generalizing cur with
  | nil => simp [rowsOf]
  | cons p ps ih => rw [rowsOf]; split <;> simp [ih]
theorem rowsOf_count (room : Nat) : ∀ (ps cur : List (List Nat)), (∀ p ∈ ps, p.length ≤ 3) → ((rowsOf room cur ps).length - 1) * (room - 2) ≤ cur.flatten.length + ps.flatten.length
  | [], cur, _ => by simp [rowsOf]
  | p :: ps, cur, h => by
    have hp := h p (by simp)
    rw [rowsOf]
    split
    · rename_i hh
      have ih := rowsOf_count room ps [p] (fun q hq => h q (by simp [hq]))
      have h0 := rowsOf_pos room ps [p]
      rw [List.length_cons, List.flatten_cons, List.length_append]
      generalize (rowsOf room [p] ps).length = N at ih h0 ⊢
      obtain ⟨M, rfl⟩ : ∃ M, N = M + 1 := ⟨N - 1, by lia⟩
      simp only [Nat.add_sub_cancel] at ih ⊢
      rw [Nat.add_mul, Nat.one_mul]
      simp only [List.flatten_cons, List.flatten_nil, List.append_nil] at ih
      lia
    · have ih := rowsOf_count room ps (cur ++ [p]) (fun q hq => h q (by simp [hq]))
      rw [List.flatten_append, List.length_append] at ih
      rw [List.flatten_cons, List.length_append]
      simp only [List.flatten_cons, List.flatten_nil, List.append_nil] at ih
      lia

/-- what the rows are good for -/
theorem good_of {room : Nat} {p0 : List Nat} {ps : List (List Nat)} {gs : List (List (List Nat))} (e : gs = rowsOf room [] (p0 :: ps)) (h0 : p0 ≠ []) (h0l : p0.length ≤ room) (hr : room ≤ 66) (hr3 : 24 ≤ room) (hp : ∀ p ∈ ps, p ≠ [] ∧ p.length ≤ 3)
    (hbig : room < p0.length + ps.flatten.length) (hsm : p0.length + ps.flatten.length ≤ 155 + room) : Good room gs ∧ gs.flatten = p0 :: ps := by
  have e1 : gs = rowsOf room [p0] ps := by rw [e, rowsOf, if_neg (by simp; lia)]; rfl
  have hf : gs.flatten = p0 :: ps := by rw [e, rowsOf_flat]; rfl
  have hmem : ∀ g ∈ gs, ∀ p ∈ g, p = p0 ∨ p ∈ ps := by
    intro g hg p hp
    have : p ∈ gs.flatten := List.mem_flatten.mpr ⟨g, hg, hp⟩
    rw [hf] at this
    exact List.mem_cons.mp this
  refine ⟨⟨?_, ?_, ?_, ?_, ?_, ?_, ?_, ?_⟩, hf⟩
  · rw [e1]; exact rowsOf_ne room ps [p0] (by simp)
  · intro g hg p hpm
    rcases hmem g hg p hpm with rfl | h
    · exact h0
    · exact (hp p h).1
  · rw [e1]; exact rowsOf_fit room ps [p0] (by simpa using h0l) (fun p h => by have := (hp p h).2; lia)
  · rw [e1]; exact rowsOf_full room ps [p0]
  · rw [e1]
    have hne := rowsOf_pos room ps [p0]
    rcases Nat.lt_or_ge (rowsOf room [p0] ps).length 2 with h | h
    · exfalso
      have hfit := rowsOf_fit room ps [p0] (by simpa using h0l) (fun p h => by have := (hp p h).2; lia)
      have hfl := rowsOf_flat room ps [p0]
      match hgs : rowsOf room [p0] ps, hne, h with
      | [g], _, _ =>
        rw [hgs] at hfit hfl
        have := hfit g (by simp)
        simp only [List.flatten_cons, List.flatten_nil, List.append_nil] at hfl
        rw [hfl] at this
        simp at this
        simp at hbig
        lia
    · exact h
  · rw [e1]
    have hc := rowsOf_count room ps [p0] (fun p h => (hp p h).2)
    rcases Nat.lt_or_ge (rowsOf room [p0] ps).length 11 with h | h
    · lia
    · exfalso
      have : 10 * (room - 2) ≤ ((rowsOf room [p0] ps).length - 1) * (room - 2) := Nat.mul_le_mul_right _ (by lia)
      simp only [List.flatten_cons, List.flatten_nil, List.append_nil] at hc
      lia
  · rw [hf, List.length_cons]
    have : ps.length ≤ ps.flatten.length := by
      clear hbig hsm hf hmem e e1
      induction ps with
      | nil => simp
      | cons p ps ih =>
        have h1 := List.length_pos_iff.mpr (hp p (by simp)).1
        have := ih (fun q hq => hp q (by simp [hq]))
        rw [List.flatten_cons, List.length_append, List.length_cons]; lia
    lia
  · intro g hg p hpm
    rcases hmem g hg p hpm with rfl | h
    · lia
    · have := (hp p h).2; lia
end

/-! ## V31 -/
section
variable {c : Cx} {A : Around} {n : Nat} {rest : Cs} {Q : V → Cs → Prop} {b t : List Nat}

noncomputable def rb (r : Row) : List Nat := r.nm ++ (61 :: r.wr)
theorem join_rows : ∀ (rows : List Row), rows ≠ [] → [119, 59, 32] ++ joinN [59, 32] (rows.map rb) = 119 :: rows.flatMap Row.b
  | [], h => absurd rfl h
  | r :: rows, _ => by
    rw [List.map_cons, joinN_cons, List.flatMap_cons, List.flatMap_map]
    simp [rb, Row.b]
    rfl

/-- rows that are read as they were meant -/
noncomputable def ReadsTo (c : Cx) (n : Nat) (b t : List Nat) (rs : List (List Nat)) : Prop :=
  ∀ (A : Around) (rest : Cs) (Q : V → Cs → Prop), Ok A (n + 8) → Q (.tup [.str [119], .sd [(b, .str t)]]) rest → Cal c A rest 66 [.bytes ([119, 59, 32] ++ joinN [59, 32] rs)] Q

theorem reads_gen {rows : List Row} (hr : ∀ r ∈ rows, r.Ok) (hne : rows ≠ []) (hz : (rows.flatMap Row.b).length ≤ 4095)
    (hP : ∀ {A : Around} {rest : Cs} {Q : V → Cs → Prop}, Ok A (n + 7) → Q (.sd [(b, .str t)]) rest → Cal c A rest 65 [.list (rows.map Row.v)] Q) : ReadsTo c n b t (rows.map rb) := by
  intro A rest Q ok q
  rw [join_rows rows hne]
  exact read_value_ rfl hr (by rw [List.length_cons]; lia) hP ok q

theorem Name.base (h : Name b) : Base b := ⟨h.ne, fun hm => h.free 42 hm (by simp), by have := h.len; lia⟩
theorem enc_id (ht : ∀ k ∈ t, k < 128) : enc t = t := by
  induction t with
  | nil => rfl
  | cons k t ih => rw [enc_cons, ih fun k hk => ht k (by simp [hk]), show enc1 k = [k] from if_neg (by have := ht k (by simp); lia)]; rfl
theorem tok_digit : ∀ k : Nat, k < 10 → isTok ((48 + k : Nat) : Int) = true ∧ lowerN (48 + k) = 48 + k := by decide
theorem tok_nm {s : List Nat} (h : Name b) (hs : ∀ k ∈ s, isTok k = true ∧ lowerN k = k) : (∀ k ∈ b ++ s, isTok k = true) ∧ (∀ k ∈ b ++ s, lowerN k = k) ∧ b ++ s ≠ [] :=
  ⟨fun k hk => (List.mem_append.mp hk).elim (h.tok k) fun h => (hs k h).1, fun k hk => (List.mem_append.mp hk).elim (h.low k) fun h => (hs k h).2, fun e => h.ne (List.append_eq_nil_iff.mp e).1⟩

theorem reads1 (hb : Name b) (ht : ∀ k ∈ t, k < 128) (hw : ∀ k ∈ t, isWorth k = true) (hne : t ≠ []) (hz : t.length ≤ 1000) : ReadsTo c n b t [(b ++ [61]) ++ t] := by
  have hbl := hb.len
  have e : [(b ++ [61]) ++ t] = [Row.mk b t t].map rb := by simp [rb]
  rw [e]
  refine reads_gen (fun r hr => ?_) (by simp) (by simp [Row.b]; lia) fun {A rest Q} ok q => ?_
  · rw [List.mem_singleton] at hr; subst hr
    exact ⟨hb.tok, hb.low, hb.ne, .plain t hw hne⟩
  · have := params_plain (c := c) (n := n + 1) hb.base (t := t) (fun k hk => .inl (ht k hk)) (by rw [enc_id ht]; lia) ok q
    rw [enc_id ht] at this
    exact this

theorem reads2 (hb : Name b) (ht : ∀ k ∈ t, okPlain k) (hz : t.length ≤ 1000) : ReadsTo c n b t [wholeQ b t] := by
  have hbl := hb.len
  have hel := esc_flat_le t
  have e : [wholeQ b t] = [Row.mk b (34 :: (t.flatMap esc ++ [34])) t].map rb := by simp [rb, wholeQ]
  rw [e]
  refine reads_gen (fun r hr => ?_) (by simp) (by rw [List.flatMap_cons, List.flatMap_nil, List.append_nil, Row.b_len]; dsimp only; rw [List.length_cons, List.length_append, List.length_singleton]; lia) fun {A rest Q} ok q => ?_
  · rw [List.mem_singleton] at hr; subst hr
    exact ⟨hb.tok, hb.low, hb.ne, .quoted t ht⟩
  · have h128 : ∀ k ∈ t, k < 128 := fun k hk => (ht k hk).1
    have := params_plain (c := c) (n := n + 1) hb.base (t := t) (fun k hk => .inl (h128 k hk)) (by rw [enc_id h128]; lia) ok q
    rw [enc_id h128] at this
    exact this

theorem worth_hex : ∀ a : Nat, a < 16 → isWorth (hexd a) = true := by decide +kernel
theorem worth_pct {o : Nat} (ho : o < 256) : ∀ k ∈ pct o, isWorth k = true := by
  unfold pct
  split
  · rename_i h
    intro k hk
    rw [List.mem_singleton] at hk; subst hk
    unfold isWorth; rw [h.1, Bool.or_true]
  · intro k hk
    simp only [List.mem_cons, List.not_mem_nil, or_false] at hk
    rcases hk with rfl | rfl | rfl
    · decide
    · exact worth_hex _ (by lia)
    · exact worth_hex _ (by lia)
theorem worth_pcts {os : List Nat} (ho : ∀ o ∈ os, o < 256) : ∀ k ∈ os.flatMap pct, isWorth k = true := by
  intro k hk
  obtain ⟨o, h1, h2⟩ := List.mem_flatMap.mp hk
  exact worth_pct (ho o h1) k h2
theorem worth_lead : ∀ k ∈ leadN, isWorth (k : Nat) = true := by decide
theorem enc_lt (ht : ∀ k ∈ t, okSign k) : ∀ o ∈ enc t, o < 256 := by
  intro o h
  obtain ⟨s, hs, hk⟩ := List.mem_flatMap.mp h
  rcases ht s hs with h | h
  · rw [show enc1 s = [s] from if_neg (by lia)] at hk; simp at hk; lia
  · rw [show enc1 s = [195, 169] from if_pos h] at hk; simp at hk; lia

theorem reads3 (hb : Name b) (ht : ∀ k ∈ t, okSign k) (hz : (enc t).length ≤ 1000) : ReadsTo c n b t [wholeE b (enc t)] := by
  have hbl := hb.len
  have hel := pct_flat_le (enc t)
  have e : [wholeE b (enc t)] = [Row.mk (b ++ [42]) (leadN ++ (enc t).flatMap pct) (leadN ++ (enc t).flatMap pct)].map rb := by simp [rb, wholeE]
  rw [e]
  have hl7 : leadN.length = 7 := rfl
  refine reads_gen (fun r hr => ?_) (by simp) (by rw [List.flatMap_cons, List.flatMap_nil, List.append_nil, Row.b_len]; dsimp only; rw [List.length_append, List.length_append, List.length_singleton]; lia) fun {A rest Q} ok q => ?_
  · rw [List.mem_singleton] at hr; subst hr
    obtain ⟨h1, h2, h3⟩ := tok_nm (s := [42]) hb (by decide)
    exact ⟨h1, h2, h3, .plain _ (fun k hk => (List.mem_append.mp hk).elim (worth_lead k) (worth_pcts (enc_lt ht) k)) (by simp [leadN])⟩
  · exact params_parts (c := c) (n := n) (b := b) (t := t) (e := true) (ws := rawC [enc t]) (nm := fun _ => b ++ [42]) (m := 1) hb.base (by lia) (by lia) (fun k hk => by rw [show k = 0 by lia]; exact .whole)
      (fun {A rest Q} ok q => joined_coded (c := c) (n := n) (oss := [enc t]) (by simp) (by simp) ht (by lia) (fun o ho => by rw [List.mem_singleton] at ho; subst ho; lia) (fun o ho => by rw [List.mem_singleton] at ho; subst ho; exact enc_lt ht) ok q) ok q

theorem split_map {α β : Type} (f : α → β) : ∀ (gs : List (List β)) (l : List α), gs.flatten = l.map f → ∃ hs : List (List α), gs = hs.map (List.map f) ∧ hs.flatten = l
  | [], l, h => ⟨[], rfl, by simpa using h.symm⟩
  | g :: gs, l, h => by
    rw [List.flatten_cons] at h
    obtain ⟨l1, l2, e1, e2, e3⟩ := List.map_eq_append_iff.mp h.symm
    obtain ⟨hs, e4, e5⟩ := split_map f gs l2 e3.symm
    exact ⟨l1 :: hs, by rw [List.map_cons, e2, e4], by rw [List.flatten_cons, e5, e1]⟩
theorem flatMap_len {α : Type} (f : α → List Nat) (N : Nat) : ∀ l : List α, (∀ a ∈ l, (f a).length ≤ N) → (l.flatMap f).length ≤ l.length * N
  | [], _ => by simp
  | a :: l, h => by
    have := flatMap_len f N l fun a ha => h a (by simp [ha])
    have h1 := h a (by simp)
    rw [List.flatMap_cons, List.length_append, List.length_cons, Nat.add_mul, Nat.one_mul]; lia

theorem reads4 {gs : List (List (List Nat))} (hb : Name b) (ht : ∀ k ∈ t, okPlain k) (hz : t.length ≤ 1000) (hg : Good (66 - b.length) gs) (hf : gs.flatten = t.map esc) : ReadsTo c n b t ((List.range gs.length).map (partQ b gs)) := by
  obtain ⟨tss, e1, e2⟩ := split_map esc gs t hf
  have hbl := hb.len
  have h10 := hg.ten
  have h2 := hg.two
  have hN : tss.length = gs.length := by rw [e1, List.length_map]
  have hgk : ∀ k, k < gs.length → (gs.getD k []).flatten = (tss.getD k []).flatMap esc := by
    intro k hk
    rw [List.getD_eq_getElem?_getD, List.getD_eq_getElem?_getD, e1, List.getElem?_map, List.getElem?_eq_getElem (by lia)]; rfl
  have hin : ∀ k, ∀ s ∈ tss.getD k [], okPlain s := by
    intro k s hs
    refine ht s ?_
    rw [← e2]
    rw [List.getD_eq_getElem?_getD] at hs
    rcases h : tss[k]? with _ | ts
    · rw [h] at hs; simp at hs
    · rw [h] at hs; exact List.mem_flatten.mpr ⟨ts, List.mem_of_getElem? h, hs⟩
  have h128 : ∀ k ∈ t, k < 128 := fun k hk => (ht k hk).1
  have e : (List.range gs.length).map (partQ b gs) = ((List.range gs.length).map fun k => Row.mk (b ++ [42, 48 + k]) (34 :: ((tss.getD k []).flatMap esc ++ [34])) (tss.getD k [])).map rb := by
    rw [List.map_map]
    refine List.map_congr_left fun k hk => ?_
    have hk := List.mem_range.mp hk
    simp only [Function.comp, partQ, rb, hgk k hk]
    simp
  rw [e]
  refine reads_gen (fun r hr => ?_) (by rw [Ne, List.map_eq_nil_iff, List.range_eq_nil]; lia) ?_ fun {A rest Q} ok q => ?_
  · obtain ⟨k, hk, rfl⟩ := List.mem_map.mp hr
    have hk := List.mem_range.mp hk
    obtain ⟨h1, h2, h3⟩ := tok_nm (s := [42, 48 + k]) hb (by
      intro x hx
      simp only [List.mem_cons, List.not_mem_nil, or_false] at hx
      rcases hx with rfl | rfl
      · decide
      · exact tok_digit k (by lia))
    exact ⟨h1, h2, h3, .quoted _ (hin k)⟩
  · refine Nat.le_trans (flatMap_len Row.b 200 _ fun r hr => ?_) (by rw [List.length_map, List.length_range]; lia)
    obtain ⟨k, hk, rfl⟩ := List.mem_map.mp hr
    have hk := List.mem_range.mp hk
    have hfit := hg.fit _ (getD_mem hk)
    rw [hgk k hk] at hfit
    rw [Row.b_len]
    dsimp only
    simp only [List.length_append, List.length_cons, List.length_nil]
    lia
  · have hp := params_parts (c := c) (n := n) (b := b) (t := t) (e := false) (ws := tss) (nm := fun k => b ++ [42, 48 + k]) (m := tss.length) hb.base (by lia) (by lia) (fun k hk => .plain k (by lia))
      (fun {A rest Q} ok q => joined_plain (c := c) (n := n) (ws := tss) (by rw [e2, enc_id h128]) (fun k hk => .inl (h128 k hk)) (by rw [enc_id h128]; lia) ok q) ok q
    rw [hN] at hp
    rw [List.map_map]
    exact hp

theorem reads5 {gs : List (List (List Nat))} (hb : Name b) (ht : ∀ k ∈ t, okSign k) (hz : (enc t).length ≤ 1000) (hg : Good (66 - b.length) gs) (hf : gs.flatten = leadN :: (enc t).map pct) : ReadsTo c n b t ((List.range gs.length).map (partE b gs)) := by
  have hbl := hb.len
  have h10 := hg.ten
  have h2 := hg.two
  obtain ⟨oss, e1, e2⟩ : ∃ oss : List (List Nat), (∀ k, k < gs.length → (gs.getD k []).flatten = (rawC oss).getD k []) ∧ oss.flatten = enc t ∧ oss.length = gs.length := by
    match gs, hf, hg with
    | [], hf, _ => simp at hf
    | [] :: gs, hf, hg => exact absurd rfl (hg.ne [] (by simp))
    | (p :: g0) :: gs, hf, hg =>
      simp only [List.flatten_cons, List.cons_append, List.cons.injEq] at hf
      obtain ⟨rfl, hf⟩ := hf
      obtain ⟨oss, e1, e2⟩ := split_map pct (g0 :: gs) (enc t) (by rw [List.flatten_cons]; exact hf)
      cases oss with
      | nil => cases e1
      | cons o0 oss =>
        rw [List.map_cons] at e1
        simp only [List.cons.injEq] at e1
        obtain ⟨e1, e3⟩ := e1
        refine ⟨o0 :: oss, fun k hk => ?_, e2, by rw [e3]; simp⟩
        cases k with
        | zero => rw [e1]; rfl
        | succ k =>
          rw [rawC_s (by rw [e3] at hk; simpa using hk) (Nat.succ_ne_zero k), List.getD_cons_succ, List.getD_cons_succ, e3]
          rw [e3, List.length_cons, List.length_map] at hk
          rw [List.getD_eq_getElem?_getD, List.getD_eq_getElem?_getD, List.getElem?_map, List.getElem?_eq_getElem (by lia)]; rfl
  obtain ⟨e2, hN⟩ := e2
  have hin : ∀ o ∈ oss, ∀ i ∈ o, i < 256 := fun o ho i hi => enc_lt ht i (by rw [← e2]; exact List.mem_flatten.mpr ⟨o, ho, hi⟩)
  have hwk : ∀ k, k < gs.length → ∀ i ∈ (rawC oss).getD k [], isWorth i = true := by
    intro k hk i hi
    by_cases h0 : k = 0
    · subst h0
      cases oss with
      | nil => simp [rawC] at hi
      | cons o os => exact (List.mem_append.mp hi).elim (worth_lead i) (worth_pcts (hin o (by simp)) i)
    · rw [rawC_s (by lia) h0] at hi
      refine worth_pcts (hin _ ?_) i hi
      rw [List.getD_eq_getElem?_getD, List.getElem?_eq_getElem (by lia)]; exact List.getElem_mem _
  have e : (List.range gs.length).map (partE b gs) = ((List.range gs.length).map fun k => Row.mk (b ++ [42, 48 + k, 42]) ((rawC oss).getD k []) ((rawC oss).getD k [])).map rb := by
    rw [List.map_map]
    refine List.map_congr_left fun k hk => ?_
    have hk := List.mem_range.mp hk
    simp only [Function.comp, partE, rb, e1 k hk]
    simp
  have hfit : ∀ k, k < gs.length → ((rawC oss).getD k []).length ≤ 66 ∧ (rawC oss).getD k [] ≠ [] := by
    intro k hk
    have h := hg.fit _ (getD_mem hk)
    rw [e1 k hk] at h
    refine ⟨by lia, fun e0 => ?_⟩
    rw [← e1 k hk] at e0
    cases hgd : gs.getD k [] with
    | nil => exact hg.ne _ (getD_mem hk) hgd
    | cons p g =>
      rw [hgd, List.flatten_cons, List.append_eq_nil_iff] at e0
      exact hg.pos _ (getD_mem hk) p (by rw [hgd]; simp) e0.1
  rw [e]
  refine reads_gen (fun r hr => ?_) (by rw [Ne, List.map_eq_nil_iff, List.range_eq_nil]; lia) ?_ fun {A rest Q} ok q => ?_
  · obtain ⟨k, hk, rfl⟩ := List.mem_map.mp hr
    have hk := List.mem_range.mp hk
    obtain ⟨h1, h2, h3⟩ := tok_nm (s := [42, 48 + k, 42]) hb (by
      intro x hx
      simp only [List.mem_cons, List.not_mem_nil, or_false] at hx
      rcases hx with rfl | rfl | rfl
      · decide
      · exact tok_digit k (by lia)
      · decide)
    exact ⟨h1, h2, h3, .plain _ (hwk k hk) (hfit k hk).2⟩
  · refine Nat.le_trans (flatMap_len Row.b 200 _ fun r hr => ?_) (by rw [List.length_map, List.length_range]; lia)
    obtain ⟨k, hk, rfl⟩ := List.mem_map.mp hr
    have hk := List.mem_range.mp hk
    have := (hfit k hk).1
    rw [Row.b_len]
    dsimp only
    simp only [List.length_append, List.length_cons, List.length_nil]
    lia
  · have hflat : ∀ o ∈ oss, (o.flatMap pct).length ≤ 4000 := by
      intro o ho
      have h1 := pct_flat_le o
      obtain ⟨l1, l2, hs⟩ := List.append_of_mem ho
      have h2 : o.length ≤ (enc t).length := by rw [← e2, hs]; simp; lia
      lia
    have hp := params_parts (c := c) (n := n) (b := b) (t := t) (e := true) (ws := rawC oss) (nm := fun k => b ++ [42, 48 + k, 42]) (m := oss.length) hb.base (by lia) (by lia) (fun k hk => .coded k (by lia))
      (fun {A rest Q} ok q => joined_coded (c := c) (n := n) (oss := oss) (fun e => by rw [e] at hN; simp at hN; lia) e2 ht (by lia) hflat hin ok q) ok q
    rw [hN] at hp
    rw [List.map_map]
    exact hp
end

/-! ## V32 -/
section
variable {c : Cx} {A : Around} {n : Nat} {rest : Cs} {Q : V → Cs → Prop} {b t : List Nat}

theorem few_of {room : Nat} {p0 : List Nat} {ps : List (List Nat)} (h0l : p0.length ≤ room) (hr : room ≤ 66) (hr3 : 24 ≤ room) (hp : ∀ p ∈ ps, p.length ≤ 3) (hsm : p0.length + ps.flatten.length ≤ 155 + room) :
    (rowsOf room [] (p0 :: ps)).length ≤ 10 ∧ ∀ k, ((rowsOf room [] (p0 :: ps)).getD k []).flatten.length ≤ 66 := by
  have e1 : rowsOf room [] (p0 :: ps) = rowsOf room [p0] ps := by rw [rowsOf, if_neg (by simp; lia)]; rfl
  rw [e1]
  refine ⟨?_, fun k => ?_⟩
  · have hc := rowsOf_count room ps [p0] hp
    rcases Nat.lt_or_ge (rowsOf room [p0] ps).length 11 with h | h
    · lia
    · exfalso
      have : 10 * (room - 2) ≤ ((rowsOf room [p0] ps).length - 1) * (room - 2) := Nat.mul_le_mul_right _ (by lia)
      simp only [List.flatten_cons, List.flatten_nil, List.append_nil] at hc
      lia
  · rcases Nat.lt_or_ge k (rowsOf room [p0] ps).length with h | h
    · have := rowsOf_fit room ps [p0] (by simpa using h0l) (fun p h => by have := hp p h; lia) _ (getD_mem h)
      lia
    · rw [List.getD_eq_getElem?_getD, List.getElem?_eq_none h]; simp

theorem esc_ne (k : Nat) : esc k ≠ [] := by unfold esc; split <;> simp
theorem pct_ne (k : Nat) : pct k ≠ [] := by unfold pct; split <;> simp
theorem gs_q (hb : Name b) (hne : t ≠ []) (hE : (t.flatMap esc).length + b.length ≤ 221) :
    (rowsOf (66 - b.length) [] (t.map esc)).length ≤ 10 ∧ ∀ k, ((rowsOf (66 - b.length) [] (t.map esc)).getD k []).flatten.length ≤ 66 := by
  have hbl := hb.len
  cases t with
  | nil => exact absurd rfl hne
  | cons k t =>
    have h1 := esc_le k
    rw [List.flatMap_cons, List.length_append] at hE
    exact few_of (ps := t.map esc) (by lia) (by lia) (by lia) (fun p hp => by obtain ⟨s, _, rfl⟩ := List.mem_map.mp hp; have := esc_le s; lia) (by rw [flat_esc]; lia)
theorem good_q (hb : Name b) (hne : t ≠ []) (hE : (t.flatMap esc).length + b.length ≤ 221) (big : 66 - b.length < (t.flatMap esc).length) :
    Good (66 - b.length) (rowsOf (66 - b.length) [] (t.map esc)) ∧ (rowsOf (66 - b.length) [] (t.map esc)).flatten = t.map esc := by
  have hbl := hb.len
  cases t with
  | nil => exact absurd rfl hne
  | cons k t =>
    have h1 := esc_le k
    rw [List.flatMap_cons, List.length_append] at hE big
    exact good_of (p0 := esc k) (ps := t.map esc) rfl (esc_ne k) (by lia) (by lia) (by lia) (fun p hp => by obtain ⟨s, _, rfl⟩ := List.mem_map.mp hp; have := esc_le s; exact ⟨esc_ne s, by lia⟩) (by rw [flat_esc]; lia) (by rw [flat_esc]; lia)

theorem rowsP_cal (hb : Name b) (hp : ∀ i ∈ t, 32 ≤ i ∧ i < 127) (hne : t ≠ []) (hz : t.length ≤ 1000) (hE : (t.flatMap esc).length + b.length ≤ 221) (ok : Ok A (n + 6)) (q : Q (.list ((rowsP b t).map V.bytes)) rest) :
    Cal c A rest 74 [.str b, .str t] Q := by
  obtain ⟨g1, g2⟩ := gs_q hb hne hE
  refine param_rows_ (n := n) hb (fun k hk => .inl (by have := hp k hk; lia)) hz ?_ (fun h => absurd hp h) (fun _ => ⟨fun h => if_pos h, fun h {A rest Q} ok q => ?_⟩) ok q
  · split
    · simp
    · unfold rowsQ
      split
      · simp
      · rw [List.length_map, List.length_range]; lia
  · unfold rowsP at q
    rw [if_neg h] at q
    exact quoted_rows_ (n := n + 3) hb.len (fun s hs => by have := hp s hs; exact ⟨by lia, by lia, by lia, by lia⟩) hz g1 (fun k => by have := g2 k; lia) ok q

/-- what the law's end needs of one text -/
structure Plan (c : Cx) (n : Nat) (b t : List Nat) (e : Bool) (W : List Nat) (ps rs : List (List Nat)) : Prop where
  pieces : ∀ (A : Around) (rest : Cs) (Q : V → Cs → Prop), Ok A (n + 8) → Q (.list (ps.map V.bytes)) rest → Cal c A rest 78 [.str t, .bool e] Q
  rows : ∀ (A : Around) (rest : Cs) (Q : V → Cs → Prop), Ok A (n + 8) → Q (.list (rs.map V.bytes)) rest → Cal c A rest 74 [.str b, .str t] Q
  one : W.length ≤ 76 → rs = [W]
  parts : 76 < W.length → ∀ (A : Around) (rest : Cs) (Q : V → Cs → Prop), Ok A (n + 8) → Q (.bool true) rest → Cal c A rest 79 [.list (rs.map V.bytes), .bytes b, .list (ps.map V.bytes), .bool e] Q
  reads : ReadsTo c n b t rs
  few : rs.length ≤ 10
  wide : ∀ r ∈ rs, r.length ≤ 200
  psz : ps.length ≤ 1000
  psl : ps.flatten.length ≤ 1000
  tz : t.length ≤ 1000
  wz : W.length ≤ 1000

theorem partQ_wide (hb : Name b) {gs : List (List (List Nat))} (h : ∀ k, (gs.getD k []).flatten.length ≤ 66) : ∀ r ∈ (List.range gs.length).map (partQ b gs), r.length ≤ 200 := by
  intro r hr
  obtain ⟨k, _, rfl⟩ := List.mem_map.mp hr
  have := h k
  have := hb.len
  unfold partQ
  simp only [List.length_append, List.length_cons, List.length_nil]
  lia
theorem partE_wide (hb : Name b) {gs : List (List (List Nat))} (h : ∀ k, (gs.getD k []).flatten.length ≤ 66) : ∀ r ∈ (List.range gs.length).map (partE b gs), r.length ≤ 200 := by
  intro r hr
  obtain ⟨k, _, rfl⟩ := List.mem_map.mp hr
  have := h k
  have := hb.len
  unfold partE
  simp only [List.length_append, List.length_cons, List.length_nil]
  lia
theorem esc_ge (t : List Nat) : t.length ≤ (t.flatMap esc).length := by
  induction t with
  | nil => simp
  | cons k t ih =>
    have := List.length_pos_iff.mpr (esc_ne k)
    rw [List.flatMap_cons, List.length_append, List.length_cons]; lia
theorem wholeQ_len : (wholeQ b t).length = b.length + 3 + (t.flatMap esc).length := by
  unfold wholeQ; simp only [List.length_append, List.length_cons, List.length_nil]; lia
theorem wholeE_len : (wholeE b (enc t)).length = b.length + 9 + ((enc t).flatMap pct).length := by
  have : leadN.length = 7 := rfl
  unfold wholeE; simp only [List.length_append, List.length_cons, List.length_nil]; lia

/-- a text that goes into quotes -/
theorem plan_q (hb : Name b) (hp : ∀ i ∈ t, 32 ≤ i ∧ i < 127) (hne : t ≠ []) (hE : (t.flatMap esc).length + b.length ≤ 221) (hr : rowsP b t = rowsQ b t) : Plan c n b t false (wholeQ b t) (t.map esc) (rowsP b t) := by
  obtain ⟨g1, g2⟩ := gs_q hb hne hE
  have hbl := hb.len
  have hz := esc_ge t
  have hpl : ∀ k ∈ t, okPlain k := fun s hs => by have := hp s hs; exact ⟨by lia, by lia, by lia, by lia⟩
  have hwl := wholeQ_len (b := b) (t := t)
  refine ⟨fun A rest Q ok q => law_pieces_q (n := n + 7) (fun k hk => by have := hp k hk; lia) (by lia) ok q, fun A rest Q ok q => rowsP_cal (n := n + 2) hb hp hne (by lia) hE ok q, fun h => ?_, fun h A rest Q ok q => ?_, ?_, ?_, ?_, by rw [List.length_map]; lia, by rw [flat_esc]; lia, by lia, by lia⟩
  · rw [hr]; exact if_pos (by lia)
  · rw [hr, show rowsQ b t = _ from if_neg (by lia)]
    obtain ⟨k1, k2⟩ := good_q hb hne hE (by lia)
    have := law_parts_right_Q (n := n + 6) (c := c) hbl k1 ok q
    rw [k2] at this
    exact this
  · rw [hr]
    by_cases h : (wholeQ b t).length + 2 ≤ 78
    · rw [show rowsQ b t = _ from if_pos h]
      exact reads2 hb hpl (by lia)
    · rw [show rowsQ b t = _ from if_neg h]
      obtain ⟨k1, k2⟩ := good_q hb hne hE (by lia)
      exact reads4 hb hpl (by lia) k1 k2
  · rw [hr]
    unfold rowsQ
    split
    · simp
    · rw [List.length_map, List.length_range]; exact g1
  · rw [hr]
    unfold rowsQ
    split
    · intro r hr; rw [List.mem_singleton] at hr; subst hr; lia
    · exact partQ_wide hb g2

theorem esc_id (ht : ∀ k ∈ t, k ≠ 34 ∧ k ≠ 92) : t.flatMap esc = t := by
  induction t with
  | nil => rfl
  | cons k t ih =>
    have := ht k (by simp)
    rw [List.flatMap_cons, ih fun k hk => ht k (by simp [hk]), show esc k = [k] from if_neg (by lia)]; rfl
theorem let_tok : ∀ k : Nat, k < 26 → isTok ((97 + k : Nat) : Int) = true ∧ isWorth ((97 + k : Nat) : Int) = true ∧ ((97 + k) ∉ [42, 39, 37]) := by decide +kernel
theorem let_tok' {k : Nat} (h : 97 ≤ k ∧ k ≤ 122) : isTok (k : Int) = true ∧ isWorth (k : Int) = true ∧ (k ∉ [42, 39, 37]) := by
  have := let_tok (k - 97) (by lia)
  rw [show 97 + (k - 97) = k by lia] at this
  exact this

/-- letters alone -/
theorem plan_l (hb : Name b) (hl : ∀ k ∈ t, 97 ≤ k ∧ k ≤ 122) (hne : t ≠ []) (hm : t.length + b.length ≤ 208) : Plan c n b t false ((b ++ [61]) ++ (t.map esc).flatten) (t.map esc) (rowsP b t) := by
  have he : t.flatMap esc = t := esc_id fun k hk => by have := hl k hk; lia
  have hp : ∀ i ∈ t, 32 ≤ i ∧ i < 127 := fun k hk => by have := hl k hk; lia
  have hbl := hb.len
  have hE : (t.flatMap esc).length + b.length ≤ 221 := by rw [he]; lia
  have htok : t ≠ [] ∧ ∀ k ∈ t, isTok k = true := ⟨hne, fun k hk => (let_tok' (hl k hk)).1⟩
  have hwl : ((b ++ [61]) ++ t).length = b.length + 1 + t.length := by simp only [List.length_append, List.length_cons, List.length_nil]
  rw [flat_esc, he]
  by_cases hs : (((b ++ [61]) ++ t).length + 2 ≤ 78)
  · have hrs : rowsP b t = [(b ++ [61]) ++ t] := if_pos ⟨htok, hs⟩
    refine ⟨fun A rest Q ok q => law_pieces_q (n := n + 7) (fun k hk => by have := hp k hk; lia) (by lia) ok q, fun A rest Q ok q => rowsP_cal (n := n + 2) hb hp hne (by lia) hE ok q, fun _ => hrs, fun h => absurd h (by lia), ?_, ?_, ?_, by rw [List.length_map]; lia, by rw [flat_esc, he]; lia, by lia, by lia⟩
    · rw [hrs]; exact reads1 hb (fun k hk => by have := hp k hk; lia) (fun k hk => (let_tok' (hl k hk)).2.1) hne (by lia)
    · rw [hrs]; simp
    · rw [hrs]; intro r hr; rw [List.mem_singleton] at hr; subst hr; lia
  · have hrs : rowsP b t = rowsQ b t := if_neg fun h => hs h.2
    have pl := plan_q (c := c) (n := n) hb hp hne hE hrs
    have hq := wholeQ_len (b := b) (t := t)
    rw [he] at hq
    exact ⟨pl.pieces, pl.rows, fun h => absurd h (by lia), fun h => pl.parts (by lia), pl.reads, pl.few, pl.wide, pl.psz, pl.psl, pl.tz, by lia⟩

theorem odd_tok : ∀ k ∈ [32, 34, 92], isTok ((k : Nat) : Int) = false := by decide +kernel
/-- letters and one blank, quote or backslash -/
theorem plan_x (hb : Name b) {l1 l2 : List Nat} {k : Nat} (hk : k ∈ [32, 34, 92]) (h1 : ∀ k ∈ l1, 97 ≤ k ∧ k ≤ 122) (h2 : ∀ k ∈ l2, 97 ≤ k ∧ k ≤ 122) (hm : l1.length + l2.length + b.length ≤ 208) :
    Plan c n b ((l1 ++ [k]) ++ l2) false (wholeQ b ((l1 ++ [k]) ++ l2)) (((l1 ++ [k]) ++ l2).map esc) (rowsP b ((l1 ++ [k]) ++ l2)) := by
  have hk' : k = 32 ∨ k = 34 ∨ k = 92 := by simpa using hk
  refine plan_q hb ?_ (by simp) ?_ (if_neg fun h => ?_)
  · intro i hi
    simp only [List.mem_append, List.mem_singleton] at hi
    rcases hi with (hi | hi) | hi
    · have := h1 i hi; lia
    · lia
    · have := h2 i hi; lia
  · have := esc_le k
    rw [List.flatMap_append, List.flatMap_append, esc_id (t := l1) (fun k hk => by have := h1 k hk; lia), esc_id (t := l2) (fun k hk => by have := h2 k hk; lia), List.flatMap_cons, List.flatMap_nil, List.append_nil, List.length_append, List.length_append]
    lia
  · have := h.1.2 k (by simp)
    rw [odd_tok k hk] at this
    cases this

theorem gs_e (hb : Name b) {os : List Nat} (hE : 7 + (os.flatMap pct).length + b.length ≤ 221) : (gsE b os).length ≤ 10 ∧ ∀ k, ((gsE b os).getD k []).flatten.length ≤ 66 := by
  have hbl := hb.len
  have h7 : leadN.length = 7 := rfl
  exact few_of (ps := os.map pct) (by lia) (by lia) (by lia) (fun p hp => by obtain ⟨s, _, rfl⟩ := List.mem_map.mp hp; exact pct_le s) (by rw [show (os.map pct).flatten = os.flatMap pct from rfl]; lia)
theorem good_e (hb : Name b) {os : List Nat} (hE : 7 + (os.flatMap pct).length + b.length ≤ 221) (big : 66 - b.length < 7 + (os.flatMap pct).length) : Good (66 - b.length) (gsE b os) ∧ (gsE b os).flatten = leadN :: os.map pct := by
  have hbl := hb.len
  have h7 : leadN.length = 7 := rfl
  exact good_of (p0 := leadN) (ps := os.map pct) rfl (by simp [leadN]) (by lia) (by lia) (by lia) (fun p hp => by obtain ⟨s, _, rfl⟩ := List.mem_map.mp hp; exact ⟨pct_ne s, pct_le s⟩)
    (by rw [show (os.map pct).flatten = os.flatMap pct from rfl]; lia) (by rw [show (os.map pct).flatten = os.flatMap pct from rfl]; lia)

theorem plan_e (hb : Name b) (hs : ∀ k ∈ t, k = 233 ∨ (isTok k = true ∧ k ∉ [42, 39, 37])) (hx : 233 ∈ t) (hz : t.length ≤ 1000) (hE : 7 + ((enc t).flatMap pct).length + b.length ≤ 221) : Plan c n b t true (wholeE b (enc t)) ((enc t).map pct) (rowsE b (enc t)) := by
  obtain ⟨g1, g2⟩ := gs_e hb hE
  have hbl := hb.len
  have hok : ∀ k ∈ t, okSign k := fun k hk => (hs k hk).elim .inr fun h => .inl (by have := tok_lt h.1; lia)
  have hel : (enc t).length ≤ ((enc t).flatMap pct).length := by
    generalize enc t = os
    induction os with
    | nil => simp
    | cons k t ih =>
      have := List.length_pos_iff.mpr (pct_ne k)
      rw [List.flatMap_cons, List.length_append, List.length_cons]; lia
  have hwl := wholeE_len (b := b) (t := t)
  have hten : (rowsE b (enc t)).length ≤ 10 := by
    unfold rowsE
    split
    · simp
    · rw [List.length_map, List.length_range]; exact g1
  refine ⟨fun A rest Q ok q => law_pieces_e (n := n + 7) hs hz ok q, fun A rest Q ok q => ?_, fun h => if_pos (by lia), fun h A rest Q ok q => ?_, ?_, hten, ?_, by rw [List.length_map]; lia, by rw [show ((enc t).map pct).flatten = (enc t).flatMap pct from rfl]; lia, hz, by lia⟩
  · exact param_rows_ (n := n + 2) hb hok hz (by lia) (fun _ {A rest Q} ok q => encoded_rows_ (n := n + 2) hbl hok (by lia) g1 (fun k => by have := g2 k; lia) ok q) (fun h => absurd (h 233 hx).2 (by lia)) ok q
  · rw [show rowsE b (enc t) = _ from if_neg (by lia)]
    obtain ⟨k1, k2⟩ := good_e hb hE (by lia)
    exact law_parts_right_E (n := n + 6) k2 hbl k1 ok q
  · by_cases h : (wholeE b (enc t)).length + 2 ≤ 78
    · rw [show rowsE b (enc t) = _ from if_pos h]
      exact reads3 hb hok (by lia)
    · rw [show rowsE b (enc t) = _ from if_neg h]
      obtain ⟨k1, k2⟩ := good_e hb hE (by lia)
      exact reads5 hb hok (by lia) k1 k2
  · unfold rowsE
    split
    · intro r hr; rw [List.mem_singleton] at hr; subst hr; lia
    · exact partE_wide hb g2

theorem enc_let (ht : ∀ k ∈ t, 97 ≤ k ∧ k ≤ 122) : (enc t).flatMap pct = t := by
  rw [enc_id fun k hk => by have := ht k hk; lia]
  induction t with
  | nil => rfl
  | cons k t ih =>
    have h := let_tok' (ht k (by simp))
    rw [List.flatMap_cons, ih fun k hk => ht k (by simp [hk]), show pct k = [k] from if_pos ⟨h.1, h.2.2⟩]; rfl
/-- letters and one sign beyond ASCII -/
theorem plan_b (hb : Name b) {l1 l2 : List Nat} (h1 : ∀ k ∈ l1, 97 ≤ k ∧ k ≤ 122) (h2 : ∀ k ∈ l2, 97 ≤ k ∧ k ≤ 122) (hm : l1.length + l2.length + b.length ≤ 208) :
    Plan c n b ((l1 ++ [233]) ++ l2) true (wholeE b (enc ((l1 ++ [233]) ++ l2))) ((enc ((l1 ++ [233]) ++ l2)).map pct) (rowsE b (enc ((l1 ++ [233]) ++ l2))) := by
  have hbl := hb.len
  refine plan_e hb ?_ (by simp) (by simp only [List.length_append, List.length_cons, List.length_nil]; lia) ?_
  · intro i hi
    simp only [List.mem_append, List.mem_singleton] at hi
    rcases hi with (hi | hi) | hi
    · have := let_tok' (h1 i hi); exact .inr ⟨this.1, this.2.2⟩
    · exact .inl hi
    · have := let_tok' (h2 i hi); exact .inr ⟨this.1, this.2.2⟩
  · rw [enc_app, enc_app, List.flatMap_append, List.flatMap_append, enc_let h1, enc_let h2, List.length_append, List.length_append, show ((enc [233]).flatMap pct).length = 6 by decide +kernel]
    lia

theorem name_n {m : Nat} (h0 : 0 < m) (h : m ≤ 40) : Name (List.replicate m 110) := by
  refine ⟨?_, ?_, ?_, ?_, by simpa using h⟩
  · intro k hk; rw [List.mem_replicate] at hk; rw [hk.2]; exact (let_tok' (by decide)).1
  · intro k hk; rw [List.mem_replicate] at hk; rw [hk.2]; decide +kernel
  · intro k hk; rw [List.mem_replicate] at hk; rw [hk.2]; decide
  · intro e; rw [List.replicate_eq_nil_iff] at e; lia
end

/-! ## V33 -/
section
variable {c : Cx} {A : Around} {n : Nat} {rest cs cs2 cs3 r : Cs} {Q : V → Cs → Prop} {b t W : List Nat} {ps rs : List (List Nat)}

theorem s_n : (Str.ofString "n").cps.toList = [110] := by decide +kernel
theorem s_w : (Str.ofString "w").cps.toList = [119] := by decide +kernel

abbrev lawF (sa P : Addr) (b t : List Nat) (s way : Nat) (sp oc ib pi wh ro : Option V) : O :=
  .frame [(Str.ofString "script", some (.ref sa)), (Str.ofString "pot", some (.ref P)), (Str.ofString "name", some (.str b)), (Str.ofString "size", some (.int s)), (Str.ofString "text", some (.str t)), (Str.ofString "way", some (.int way)),
    (Str.ofString "spot", sp), (Str.ofString "octets", oc), (Str.ofString "is_beyond", ib), (Str.ofString "pieces", pi), (Str.ofString "whole", wh), (Str.ofString "rows", ro)]

theorem sum_le {l : List (List Nat)} (h : ∀ r ∈ l, r.length ≤ 200) : (l.map List.length).sum ≤ l.length * 200 := by
  induction l with
  | nil => simp
  | cons a l ih =>
    have h1 := h a (by simp)
    have := ih fun r hr => h r (by simp [hr])
    rw [List.map_cons, List.sum_cons, List.length_cons, Nat.add_mul]; lia
theorem sum_flat (l : List (List Nat)) : (l.map List.length).sum = l.flatten.length := by rw [List.length_flatten]

theorem law_fin {pm code doc : Value} {L a sa P C : Addr} {s way k : Nat} {st : Int} {ns : List Int} {sp oc ib pi wh : Option V} (hb : Name b) (plan : Plan c n b t (decide ((way : Int) = 3)) W ps rs)
    (ok' : Ok (A.deeper (envK 80 pm code doc L a)) (n + 8)) (q : Q (.bool true) rest) :
    GS c (A.deeper (envK 80 pm code doc L a)) [(P, potO C st k), (C, cellsO ns), (L, lawF sa P b t s way sp oc ib pi wh (some (.list (rs.map V.bytes))))] (execs ((fnBody 80).drop 12) (envK 80 pm code doc L a)) (Out L rest Q) := by
  have hA := ok'.handled
  (conv in fnBody _ => whnf)
  simp only [List.drop_succ_cons, List.drop_zero]
  have h1 := sum_le plan.wide
  have h2 := plan.few
  have h3 := joinN_len (bs [59, 32]) rs
  rw [show (bs [59, 32]).length = 2 from rfl] at h3
  have h4 : (bs [119, 59, 32]).length = 3 := rfl
  have h5 : (bs [59, 32]).length = 2 := rfl
  walk_at "u"
  walk_at "joinB"
  walk_at "u"
  refine M_joinBL IsL_f (by rw [h5]; lia) ?_
  walk_at "u"
  refine plan.reads _ _ _ ok' ?_
  walk_at "u"
  refine E_Dict1 (x1 := b) (y1 := .str t) (fun d => E_lK (by walk_at "at") (by walk_at "loc") ⟨rfl, rfl⟩) (fun d => E_lK (by walk_at "at") (by walk_at "loc") ⟨rfl, rfl⟩) ?_
  walk_at "u"
  rw [s_w]
  refine C_eqTD (by have := ok'.units; unfold cLine; lia) ?_
  walk_at "u"
  exact q

theorem law_mid {pm code doc : Value} {L a sa P C : Addr} {s way k : Nat} {st : Int} {ns : List Int} {sp : Option V} (hb : Name b) (plan : Plan c n b t (decide ((way : Int) = 3)) W ps rs)
    (ok' : Ok (A.deeper (envK 80 pm code doc L a)) (n + 8)) (q : Q (.bool true) rest) :
    GS c (A.deeper (envK 80 pm code doc L a)) [(P, potO C st k), (C, cellsO ns), (L, lawF sa P b t s way sp (some (.bytes b)) (some (.bool (decide ((way : Int) = 3)))) (some (.list (ps.map V.bytes))) (some (.bytes W)) none)] (execs ((fnBody 80).drop 10) (envK 80 pm code doc L a)) (Out L rest Q) := by
  have hA := ok'.handled
  have fin := fun oc ib pi wh => law_fin (pm := pm) (code := code) (doc := doc) (L := L) (a := a) (sa := sa) (P := P) (C := C) (s := s) (k := k) (st := st) (ns := ns) (sp := sp) (oc := oc) (ib := ib) (pi := pi) (wh := wh) (rest := rest) (Q := Q) hb plan ok' q
  rw [show List.drop 10 (fnBody 80) = ((fnBody 80).drop 10).take 2 ++ List.drop 12 (fnBody 80) by kernel_rfl]
  generalize List.drop 12 (fnBody 80) = tl at fin ⊢
  (conv in fnBody _ => whnf)
  simp only [List.drop_succ_cons, List.drop_zero, List.take_succ_cons, List.take_zero, List.cons_append, List.nil_append]
  have h2 := plan.few
  have h3 := plan.wz
  walk_at "u1"
  walk_at "u1"
  refine E_Frz ?_
  walk_at "u"
  refine plan.rows _ _ _ ok' ?_
  walk_at "u"
  refine T_listOf IsL_f (by rw [List.length_map]; lia) (fun S => ?_)
  refine ⟨_, _, _, rfl, by walk_at "take", ?_⟩
  walk_at "u"
  walk_at "ite"
  · rename_i h
    have hW : (W.length : Int) ≤ 76 := h
    have e := plan.one (by lia)
    walk_at "uf"
    refine C_neSame (bl := [W]) ok'.unit (by rw [e]; exact IsL_f) IsL_f ?_
    walk_at "u"
    exact fin _ _ _ _
  · rename_i h
    have hW : ¬ (W.length : Int) ≤ 76 := h
    walk_at "u"
    refine plan.parts (by lia) _ _ _ ok' ?_
    walk_at "u"
    exact fin _ _ _ _
end

/-! ## V34 -/
section
variable {c : Cx} {A : Around} {n : Nat} {rest cs cs2 cs3 r : Cs} {Q : V → Cs → Prop} {b t W : List Nat} {ps rs : List (List Nat)}

theorem psum_le (h : ps.flatten.length ≤ 1000) : (ps.map List.length).sum ≤ 1000 := by rw [sum_flat]; exact h

theorem law_back {pm code doc : Value} {L a sa P C : Addr} {s way k : Nat} {st : Int} {ns : List Int} {sp : Option V} (hb : Name b) (plan : Plan c n b t (decide ((way : Int) = 3)) W ps rs) (ht : t ≠ [])
    (w3 : way = 3 → W = (b ++ bs [42, 61, 117, 116, 102, 45, 56, 39, 39]) ++ ps.flatten) (w4 : 3 < way → W = (b ++ bs [61]) ++ ps.flatten) (w0 : way < 3 → W = ((b ++ bs [61, 34]) ++ ps.flatten) ++ bs [34])
    (ok' : Ok (A.deeper (envK 80 pm code doc L a)) (n + 8)) (q : Q (.bool true) rest) :
    GS c (A.deeper (envK 80 pm code doc L a)) [(P, potO C st k), (C, cellsO ns), (L, lawF sa P b t s way sp none none none none none)] (execs ((fnBody 80).drop 6) (envK 80 pm code doc L a)) (Out L rest Q) := by
  have hA := ok'.handled
  have mid := law_mid (pm := pm) (code := code) (doc := doc) (L := L) (a := a) (sa := sa) (P := P) (C := C) (s := s) (k := k) (st := st) (ns := ns) (sp := sp) (rest := rest) (Q := Q) hb plan ok' q
  rw [show List.drop 6 (fnBody 80) = ((fnBody 80).drop 6).take 4 ++ List.drop 10 (fnBody 80) by kernel_rfl]
  generalize List.drop 10 (fnBody 80) = tl at mid ⊢
  (conv in fnBody _ => whnf)
  simp only [List.drop_succ_cons, List.drop_zero, List.take_succ_cons, List.take_zero, List.cons_append, List.nil_append]
  have hbl := hb.len
  have h1 := plan.psz
  have h2 := psum_le plan.psl
  have h3 := plan.psl
  have htz := plan.tz
  have hb0 : (bs []).length = 0 := rfl
  have e9 : (bs [42, 61, 117, 116, 102, 45, 56, 39, 39]).length = 9 := rfl
  have e1 : (bs [61]).length = 1 := rfl
  have e2 : (bs [61, 34]).length = 2 := rfl
  have e0 : (bs [34]).length = 1 := rfl
  have hj : joinN (bs []) ps = ps.flatten := joinN_nil ps
  walk_at "u"
  walk_at "comp"
  walk_at "u"
  refine ⟨_, fun v => match v with | .str [i] => .int i | v => v, fun _ => true, IterV_str, by rw [List.length_map, sizeL]; lia, fun C y hy => T_nil ⟨rfl, rfl⟩, fun C y hy _ => ?_, ?_⟩
  · obtain ⟨i, hi, rfl⟩ := List.mem_map.mp hy
    walk_at "u"
    exact ⟨rfl, rfl⟩
  rw [map_f_filter (h := fun (s : Nat) => V.int s) (fun a _ => rfl)]
  refine T_bytes (ns := b) hA IsL_f (fun k hk => by have := tok_lt (hb.tok k hk); lia) (by lia) ?_
  walk_at "u"
  refine plan.pieces _ _ _ ok' ?_
  walk_at "u"
  walk_at "ite"
  · rename_i h
    have hw : way = 3 := by lia
    have eW := w3 hw
    walk_at "u"
    walk_at "joinB"
    walk_at "u"
    refine M_joinBL IsL_f (by rw [hb0]; lia) ?_
    rw [hj]
    walk_at "u"
    rw [← eW]
    walk_at "u"
    exact mid
  · rename_i h
    have hw : ¬ way = 3 := by lia
    walk_at "u"
    by_cases h4 : 3 < way
    · have eW := w4 h4
      refine Ite_dt (by lia) ?_
      walk_at "u"
      refine Ite_dt ?_ ?_
      · exact ht
      walk_at "u"
      walk_at "joinB"
      walk_at "u"
      refine M_joinBL IsL_f (by rw [hb0]; lia) ?_
      rw [hj]
      walk_at "u"
      rw [← eW]
      walk_at "u"
      exact mid
    · have eW := w0 (by lia)
      refine Ite_df (by lia) ?_
      walk_at "u"
      walk_at "joinB"
      walk_at "u"
      refine M_joinBL IsL_f (by rw [hb0]; lia) ?_
      rw [hj]
      walk_at "u"
      rw [← eW]
      walk_at "u"
      exact mid
end

/-! ## V35 -/
section
variable {c : Cx} {A : Around} {n : Nat} {rest cs cs2 cs3 r : Cs} {Q : V → Cs → Prop} {b t W : List Nat} {ps rs : List (List Nat)}

theorem bits_small2 : ∀ k : Nat, k ≤ 200 → Builtin.Int.intBits (k : Int) ≤ 64 := by decide +kernel
noncomputable def let26 (s : Nat) : List Nat := (List.range s).map fun k => 97 + k % 26
theorem let26_ok (s : Nat) : ∀ k ∈ let26 s, 97 ≤ k ∧ k ≤ 122 := by
  intro k hk
  obtain ⟨i, _, rfl⟩ := List.mem_map.mp hk
  lia
theorem let26_len (s : Nat) : (let26 s).length = s := by simp [let26]

theorem law_way {pm code doc : Value} {L a sa P C : Addr} {s way k p : Nat} {st : Int} {ns : List Int} {sp : Option V} {l1 l2 : List Nat} {z : Nat} (hb : Name b) (h1 : ∀ k ∈ l1, 97 ≤ k ∧ k ≤ 122) (h2 : ∀ k ∈ l2, 97 ≤ k ∧ k ≤ 122)
    (hm : l1.length + l2.length + b.length ≤ 208) (hz : (way < 3 ∧ z ∈ [32, 34, 92]) ∨ (way = 3 ∧ z = 233))
    (ok' : Ok (A.deeper (envK 80 pm code doc L a)) (n + 8)) (q : Q (.bool true) rest) :
    GS c (A.deeper (envK 80 pm code doc L a)) [(P, potO C st k), (C, cellsO ns), (L, lawF sa P b ((l1 ++ [z]) ++ l2) s way sp none none none none none)] (execs ((fnBody 80).drop 6) (envK 80 pm code doc L a)) (Out L rest Q) := by
  rcases hz with ⟨hw, hz⟩ | ⟨hw, rfl⟩
  · have pl := plan_x (c := c) (n := n) hb hz h1 h2 hm
    rw [show false = decide ((way : Int) = 3) from (decide_eq_false (by lia)).symm] at pl
    refine law_back hb pl (by simp) (fun h => absurd h (by lia)) (fun h => absurd h (by lia)) (fun _ => rfl) ok' q
  · have pl := plan_b (c := c) (n := n) hb h1 h2 hm
    rw [show true = decide ((way : Int) = 3) from (decide_eq_true (by lia)).symm] at pl
    refine law_back hb pl (by simp) (fun h => ?_) (fun h => absurd h (by lia)) (fun h => absurd h (by lia)) ok' q
    unfold wholeE
    rw [show (bs [42, 61, 117, 116, 102, 45, 56, 39, 39]) = [42, 61] ++ leadN from rfl, ← List.append_assoc b]
    rfl
end

/-! ## V36 -/
section
variable {c : Cx} {A : Around} {n : Nat} {rest cs cs2 cs3 r : Cs} {Q : V → Cs → Prop} {b t W : List Nat} {ps rs : List (List Nat)}

theorem pick4 {d : Nat} (h : d < 4) : [V.str (Str.ofString " ").cps.toList, V.str (Str.ofString "\"").cps.toList, V.str (Str.ofString "\\").cps.toList, V.str (Str.ofString "é").cps.toList][(d : Int).toNat]? = some (V.str [[32, 34, 92, 233].getD d 0]) := by
  rw [s_blank, s_quote, s_back, s_e]
  have : d = 0 ∨ d = 1 ∨ d = 2 ∨ d = 3 := by lia
  rcases this with rfl | rfl | rfl | rfl <;> rfl

theorem law_text {pm code doc : Value} {L a sa P C : Addr} {s k : Nat} {st : Int} {ns : List Int} (hb : Name b) (hk : k ≤ 50) (hns : ns.length ≤ 63) (hs0 : 0 < s) (hs : s + b.length ≤ 208)
    (ok' : Ok (A.deeper (envK 80 pm code doc L a)) (n + 8)) (q : Q (.bool true) rest) :
    GS c (A.deeper (envK 80 pm code doc L a)) [(P, potO C st k), (C, cellsO ns), (L, .frame [(Str.ofString "script", some (.ref sa)), (Str.ofString "pot", some (.ref P)), (Str.ofString "name", some (.str b)), (Str.ofString "size", some (.int s)), (Str.ofString "text", none), (Str.ofString "way", none),
    (Str.ofString "spot", none), (Str.ofString "octets", none), (Str.ofString "is_beyond", none), (Str.ofString "pieces", none), (Str.ofString "whole", none), (Str.ofString "rows", none)])] (execs ((fnBody 80).drop 3) (envK 80 pm code doc L a)) (Out L rest Q) := by
  have hA := ok'.handled
  have way := fun (way k : Nat) st ns sp l1 l2 z => law_way (c := c) (n := n) (A := A) (pm := pm) (code := code) (doc := doc) (L := L) (a := a) (sa := sa) (P := P) (C := C) (s := s) (way := way) (k := k) (st := st) (ns := ns) (sp := sp) (l1 := l1) (l2 := l2) (z := z) (p := 0) (b := b) hb (rest := rest) (Q := Q)
  have back := fun (way k : Nat) st ns (W : List Nat) ps rs => law_back (c := c) (n := n) (A := A) (pm := pm) (code := code) (doc := doc) (L := L) (a := a) (sa := sa) (P := P) (C := C) (s := s) (way := way) (k := k) (st := st) (ns := ns) (sp := none) (b := b) (t := let26 s) (W := W) (ps := ps) (rs := rs) (rest := rest) (Q := Q) hb
  rw [show List.drop 3 (fnBody 80) = ((fnBody 80).drop 3).take 3 ++ List.drop 6 (fnBody 80) by kernel_rfl]
  generalize List.drop 6 (fnBody 80) = tl at way back ⊢
  (conv in fnBody _ => whnf)
  simp only [List.drop_succ_cons, List.drop_zero, List.take_succ_cons, List.take_zero, List.cons_append, List.nil_append]
  have hbl := hb.len
  have hl := let26_len s
  have hlo := let26_ok s
  walk_at "u"
  refine MethV_of PySem.F.plainAttrs_str PySem.F.slot_str_join PySem.F.type_str_join OfT_str ?_
  walk_at "u"
  walk_at "comp"
  walk_at "u"
  refine T_range1 ?_
  refine ⟨_, fun v => match v with | .int i => .str [97 + i.toNat % 26] | v => v, fun _ => true, IterV_rngN (by lia), by rw [List.length_map, List.length_range, sizeL]; lia, fun C y hy => T_nil ⟨rfl, rfl⟩, fun C y hy _ => ?_, ?_⟩
  · obtain ⟨i, hi, rfl⟩ := List.mem_map.mp hy
    walk_at "u"
    refine B_chr (by lia) (by lia) ?_
    refine ⟨?_, rfl⟩
    show V.str [(97 + (i : Int) % 26).toNat] = V.str [97 + (i : Int).toNat % 26]
    rw [show (97 + (i : Int) % 26).toNat = 97 + (i : Int).toNat % 26 by lia]
  rw [map_f_filter (h := fun (i : Nat) => V.str [97 + i % 26]) (fun a _ => rfl), show ((List.range s).map fun (i : Nat) => V.str [97 + i % 26]) = ((let26 s).map fun a => [a]).map V.str by unfold let26; simp only [List.map_map]; rfl]
  refine M_joinS (ns := (let26 s).map fun a => [a]) IsL_f (by rw [sum1]; simp; lia) ?_
  rw [flat1]
  generalize hT : let26 s = T at way back hl hlo ⊢
  walk_at "u"
  refine law_draw_ (n := n) (lim := 6) (by decide) (by decide) (by lia) hns (ok'.le (by lia)) (fun d6 st6 ns6 hd6 hns6 => ?_)
  walk_at "u"
  walk_at "ite"
  · rename_i h
    have hw : d6 < 4 := by lia
    walk_at "u"
    rw [show (s : Int) + 1 = ((s + 1 : Nat) : Int) by lia]
    refine law_draw_ (n := n) (lim := s + 1) (by lia) (by lia) (by lia) hns6 (ok'.le (by lia)) (fun d st7 ns7 hd hns7 => ?_)
    walk_at "u"
    refine Cut_str (by lia) (by simp; lia) ?_
    walk_at "uf"
    refine Sub_l IsL_f (by lia) (pick4 hw) (by simp) ?_
    walk_at "u"
    refine O_addS (by simp [cutL]; lia) ?_
    walk_at "u"
    refine Cut_str (by lia) (by simp; lia) ?_
    walk_at "u"
    refine O_addS (by simp [cutL]; lia) ?_
    walk_at "u"
    refine way d6 _ _ _ _ (T.take d) (T.drop d) ([32, 34, 92, 233].getD d6 0) ?_ ?_ ?_ ?_ ok' q
    · exact fun k hk => hlo k (List.mem_of_mem_take hk)
    · exact fun k hk => hlo k (List.mem_of_mem_drop hk)
    · rw [List.length_take, List.length_drop]; lia
    · have : d6 = 0 ∨ d6 = 1 ∨ d6 = 2 ∨ d6 = 3 := by lia
      rcases this with rfl | rfl | rfl | rfl
      · exact .inl ⟨by lia, by decide⟩
      · exact .inl ⟨by lia, by decide⟩
      · exact .inl ⟨by lia, by decide⟩
      · exact .inr ⟨rfl, rfl⟩
  · rename_i h
    have hw : ¬ d6 < 4 := by lia
    walk_at "u"
    have hne : T ≠ [] := by intro e; rw [e] at hl; simp at hl; lia
    have pl := plan_l (c := c) (n := n) hb (t := T) hlo hne (by lia)
    rw [show false = decide ((d6 : Int) = 3) from (decide_eq_false (by lia)).symm] at pl
    exact back d6 _ _ _ _ _ _ pl hne (fun h => absurd h (by lia)) (fun _ => rfl) (fun h => absurd h (by lia)) ok' q
end

/-! ## V37 -/
section
variable {c : Cx} {A : Around} {n : Nat} {rest cs cs2 cs3 r : Cs} {Q : V → Cs → Prop} {b t W : List Nat} {ps rs : List (List Nat)}

theorem law_ {sa : Addr} {vs : List Value} (hL : c.s₀.heap.IsList sa vs.toArray) (hi' : ∀ v ∈ vs, ∃ i t, v = .int i t) (hz : vs.length ≤ 63) (ok : Ok A (n + 9)) (q : Q (.bool true) rest) : Cal c A rest 80 [.ref sa] Q := by
  refine Cal_of (pass := []) (ps := [Str.ofString "script"]) (others := [Str.ofString "pot", Str.ofString "name", Str.ofString "size", Str.ofString "text", Str.ofString "way", Str.ofString "spot", Str.ofString "octets", Str.ofString "is_beyond", Str.ofString "pieces", Str.ofString "whole", Str.ofString "rows"])
    (m := n + 8) ok (Nat.le_refl _) (fun pm code doc L a ok' => ?_) (by walk_at "bind")
  have fin := fun (P C : Addr) (b : List Nat) (s k : Nat) (st : Int) (ns : List Int) hb => law_text (c := c) (n := n) (A := A) (pm := pm) (code := code) (doc := doc) (L := L) (a := a) (sa := sa) (P := P) (C := C) (s := s) (k := k) (st := st) (ns := ns) (b := b) (rest := rest) (Q := Q) hb
  rw [show fnBody 80 = (fnBody 80).take 3 ++ List.drop 3 (fnBody 80) by kernel_rfl]
  generalize List.drop 3 (fnBody 80) = tl at fin ⊢
  walk_at "start"
  simp only [List.take_succ_cons, List.take_zero, List.cons_append, List.nil_append]
  have hA := ok'.handled
  walk_at "u"
  refine law_pot_ (n := n) hL hi' hz (ok'.le (by lia)) (fun P C st ns hns => ?_)
  walk_at "u"
  refine law_draw_ (n := n) (lim := 40) (by decide) (by decide) (by lia) hns (ok'.le (by lia)) (fun d1 st1 ns1 hd1 hns1 => ?_)
  walk_at "u"
  rw [s_n]
  refine O_mulS (by lia) (by lia) ?_
  rw [show (1 + (d1 : Int)).toNat = d1 + 1 by lia]
  have hb := name_n (m := d1 + 1) (by lia) (by lia)
  have hbl : (List.replicate (d1 + 1) 110).length = d1 + 1 := List.length_replicate
  generalize List.replicate (d1 + 1) 110 = b at hb hbl ⊢
  walk_at "u"
  refine law_draw_ (n := n) (lim := 12) (by decide) (by decide) (by lia) hns1 (ok'.le (by lia)) (fun d2 st2 ns2 hd2 hns2 => ?_)
  walk_at "u"
  refine law_draw_ (n := n) (lim := 4) (by decide) (by decide) (by lia) hns2 (ok'.le (by lia)) (fun d3 st3 ns3 hd3 hns3 => ?_)
  walk_at "u"
  refine O_div (by decide) (PyProof.noPylong_small (by decide)) ?_
  walk_at "u"
  refine law_draw_ (n := n) (lim := 130) (by decide) (by decide) (by lia) hns3 (ok'.le (by lia)) (fun d4 st4 ns4 hd4 hns4 => ?_)
  walk_at "u"
  refine O_mul (.of_right (bits_small2 d4 (by lia))) ?_
  walk_at "u"
  have hp : (d3 : Int) / 3 * d4 = 0 ∨ (d3 : Int) / 3 * d4 = d4 := by
    rcases (show (d3 : Int) / 3 = 0 ∨ (d3 : Int) / 3 = 1 by lia) with e | e <;> rw [e] <;> simp
  generalize (d3 : Int) / 3 * (d4 : Int) = g at hp ⊢
  have hs : ∃ s : Nat, (if 68 + (d2 : Int) - (b.length : Int) + g > 0 then 68 + (d2 : Int) - (b.length : Int) + g else 0) = (s : Int) ∧ 0 < s ∧ s + b.length ≤ 208 :=
    ⟨(68 + (d2 : Int) - (b.length : Int) + g).toNat, by rw [if_pos (by lia)]; lia, by lia, by lia⟩
  refine B_max hA ?_
  obtain ⟨s, es, hs0, hs1⟩ := hs
  rw [es]
  walk_at "u"
  exact fin P C b s _ _ _ hb (by lia) hns4 hs0 hs1 ok' q
end

/-! ## V38 -/
section

/-! ### what the written heap must hold -/
noncomputable def adTab : List (Nat × Nat) := [(7, 155), (8, 166), (9, 171), (10, 176), (17, 184), (18, 191), (19, 198), (20, 203), (21, 210), (22, 217), (23, 224), (24, 231), (25, 238), (26, 245), (27, 252), (28, 259), (29, 266), (33, 274), (34, 281), (35, 288), (37, 302), (52, 310), (53, 317), (54, 324), (55, 331), (56, 338), (57, 343), (58, 350), (59, 357), (60, 364), (61, 369), (62, 376), (63, 381), (64, 388), (65, 395), (66, 402), (67, 407), (68, 412), (69, 419), (70, 426), (71, 431), (72, 436), (73, 441), (74, 446), (76, 451), (77, 458), (78, 465), (79, 470), (80, 475), (100, 88), (101, 95), (102, 103), (103, 110)]
noncomputable def adT (k : Nat) : Addr := (adTab.lookup k).getD 0
abbrev Fg := PySem.W.Frag
noncomputable def obOf (K : Fg) (a : Addr) : Obj := (K.lookup a).getD { cls := .none }
noncomputable def fdOf (K : Fg) (a : Addr) : FuncData := match (obOf K a).data with | .func fd => fd | _ => default
noncomputable def sqOf (K : Fg) (a : Addr) : List Value := match (obOf K a).data with | .seq vs _ => vs.toList | _ => []
noncomputable def snOf (K : Fg) (a : Addr) : Nat := match (obOf K a).data with | .seq _ n => n | _ => 0
noncomputable def glOf (K : Fg) (x : Str) : Value := match PySem.W.nsIn K mainGlobals x with | some (some v) => v | _ => .none
noncomputable def isTupB (o : Obj) : Bool := (match o.cls with | .type n => decide (n = "tuple") | _ => false) && o.dict.isNone && o.slots.toList.isEmpty

noncomputable def rel0B : Value → V → Bool
  | .int i _, .int j => decide (i = j)
  | .str x _, .str l => decide (x.cps.toList = l)
  | .bytes b _, .bytes l => decide (b.toList.map UInt8.toNat = l)
  | .ref a, .fn k => decide (a = adT k)
  | _, _ => false
noncomputable def rel0L : List Value → List V → Bool
  | [], [] => true
  | u :: us, v :: vs => rel0B u v && rel0L us vs
  | _, _ => false
noncomputable def relB (K : Fg) : Value → V → Bool
  | .ref a, .tup l => (match K.lookup a with
    | some o => isTupB o && (match o.data with | .seq vs _ => rel0L vs.toList l | _ => false)
    | none => false)
  | u, v => rel0B u v
noncomputable def globB (K : Fg) (p : Str × V) : Bool := match PySem.W.nsIn K mainGlobals p.1 with
  | some (some u) => relB K u p.2
  | _ => false
noncomputable def noneB (K : Fg) (x : Str) : Bool := match PySem.W.nsIn K mainGlobals x with
  | some none => true
  | _ => false
noncomputable def codeB (K : Fg) (cd : Value) (q : Str) : Bool := match cd with
  | .ref c => (match K.lookup c with
    | some ⟨_, _, .fields vs, _⟩ => (match (vs.toList[1]? : Option Value) with
      | some (Value.str x _) => decide (x.cps.toList = q.cps.toList)
      | _ => false)
    | _ => false)
  | _ => false
structure FnOk (K : Fg) (k : Nat) (dfl : Value) : Prop where
  has : K.lookup (adT k) = some (obOf K (adT k))
  data : (obOf K (adT k)).data = .func { fdK k (fdOf K (adT k)).pyModule (fdOf K (adT k)).code (fdOf K (adT k)).doc with defaults := dfl }
  code : codeB K (fdOf K (adT k)).code (fnQual k) = true
noncomputable def tupOk (K : Fg) (a : Addr) (l : List V) : Bool := match K.lookup a with
  | some o => isTupB o && (match o.data with | .seq vs _ => rel0L vs.toList l | _ => false)
  | none => false
structure KOk (K : Fg) : Prop where
  glob : glob0.all (globB K) = true
  noglob : noGlob0.all (noneB K) = true
  fns : ∀ k ∈ fnIx2, FnOk K k .none
  m100 : FnOk K 100 (.ref 81)
  m102 : FnOk K 102 (.ref 96)
  t100 : tupOk K 81 [.int 0, .int (-1)] = true
  t102 : tupOk K 96 [.int 0] = true
  khas : PySem.W.hasDictIn K (adT 7) = true
  kmakes : PySem.W.makesIn K (adT 7) = true
  kkeep : PySem.W.keepIn K (.ref (adT 7)) = true
  kover : PySem.W.plainOver K (adT 7) = true
  kga : PySem.W.findIn K (.ref (adT 7)) "__getattribute__" = some (some (.builtin "object.__getattribute__"))
  kgb : PySem.W.findIn K (.ref (adT 7)) "__getattr__" = some none
  ksa : PySem.W.findIn K (.ref (adT 7)) "__setattr__" = some (some (.builtin "object.__setattr__"))
  ka1 : PySem.W.findIn K (.ref (adT 7)) (Str.ofString "data") = some none
  ka2 : PySem.W.findIn K (.ref (adT 7)) (Str.ofString "at") = some none
  ka3 : PySem.W.findIn K (.ref (adT 7)) (Str.ofString "end") = some none
  m0 : PySem.W.findIn K (.ref (adT 7)) (fnName 100) = some (some (.ref (adT 100)))
  m1 : PySem.W.findIn K (.ref (adT 7)) (fnName 101) = some (some (.ref (adT 101)))
  m2 : PySem.W.findIn K (.ref (adT 7)) (fnName 102) = some (some (.ref (adT 102)))
  m3 : PySem.W.findIn K (.ref (adT 7)) (fnName 103) = some (some (.ref (adT 103)))
  y0 : PySem.W.typeIn K (.ref (adT 100)) = some (.type "function")
  y1 : PySem.W.typeIn K (.ref (adT 101)) = some (.type "function")
  y2 : PySem.W.typeIn K (.ref (adT 102)) = some (.type "function")
  y3 : PySem.W.typeIn K (.ref (adT 103)) = some (.type "function")

section
variable {w : World} {h : Heap} {K : Fg}
theorem rel0_ok {W : Wd} : ∀ {u : Value} {v : V}, rel0B u v = true → Rel w adT W u v := by
  intro u v e
  unfold rel0B at e
  split at e
  · have := of_decide_eq_true e; subst this; exact .int _ _
  · exact .str _ _ _ (of_decide_eq_true e)
  · exact .bytes _ _ _ (of_decide_eq_true e)
  · exact .fn _ _ (of_decide_eq_true e)
  · cases e
theorem rel0L_ok {W : Wd} : ∀ {us : List Value} {vs : List V}, rel0L us vs = true → RelL w adT W us vs
  | [], [], _ => .nil
  | u :: us, v :: vs, e => by
    obtain ⟨a, b⟩ := Bool.and_eq_true_iff.mp e
    exact .cons _ _ _ _ (rel0_ok a) (rel0L_ok b)
  | [], _ :: _, e => by cases e
  | _ :: _, [], e => by cases e
theorem tup_of {o : Obj} {vs : Array Value} {n : Nat} (e : isTupB o = true) (hd : o.data = .seq vs n) : o = tupObj vs.toList n := by
  obtain ⟨c, d, dt, sl⟩ := o
  unfold isTupB at e
  simp only [Bool.and_eq_true] at e
  obtain ⟨⟨e1, e2⟩, e3⟩ := e
  cases c with
  | type m =>
    have e4 : m = "tuple" := of_decide_eq_true e1
    subst e4
    dsimp only at hd e2 e3
    subst hd
    have : d = none := by cases d with | none => rfl | some _ => cases e2
    subst this
    have : sl = #[] := Array.toList_inj.mp (List.isEmpty_iff.mp e3)
    subst this
    rfl
  | _ => cases e1
theorem tup_ok {a : Addr} {l : List V} (X : K.In h) (e : tupOk K a l = true) : ∃ vs n, h.get? a = some (tupObj vs n) ∧ RelL w adT h.get? vs l := by
  unfold tupOk at e
  split at e
  · rename_i o ho
    obtain ⟨e1, e2⟩ := Bool.and_eq_true_iff.mp e
    have hh := X _ _ ho
    split at e2
    · rename_i vs n hd
      refine ⟨vs.toList, n, ?_, rel0L_ok e2⟩
      rw [hh, tup_of e1 hd]
    · cases e2
  · cases e
theorem rel_ok {u : Value} {v : V} (X : K.In h) (e : relB K u v = true) : Rel w adT h.get? u v := by
  unfold relB at e
  split at e
  · obtain ⟨vs, n, h1, h2⟩ := tup_ok (w := w) (l := _) X (show tupOk K _ _ = true from e)
    exact .tup _ _ _ _ h1 h2
  · exact rel0_ok e
theorem code_ok {cd : Value} {q : Str} (X : K.In h) (e : codeB K cd q = true) : h.CodeRec cd q := by
  unfold codeB at e
  split at e
  · split at e
    · rename_i c a b vs d ho
      split at e
      · rename_i x t hx
        have := of_decide_eq_true e
        have hq : x = q := by cases x; cases q; simp only [Str.mk.injEq] at *; exact Array.toList_inj.mp this
        subst hq
        exact ⟨_, _, vs, t, rfl, X _ _ ho, rfl, by rw [← Array.getElem?_toList]; exact hx⟩
      · cases e
    · cases e
  · cases e
theorem fn_ok {k : Nat} {dfl : Value} (X : K.In h) (f : FnOk K k dfl) : ∃ o pm code doc, h.get? (adT k) = some o ∧ o.data = .func { fdK k pm code doc with defaults := dfl } ∧ h.CodeRec code (fnQual k) :=
  ⟨_, _, _, _, X _ _ f.has, f.data, code_ok X f.code⟩
/-- the whole of what the walks lean on -/
theorem cx_of {p : Program} {lo : List Str} {mean : ExcName → Option Value} {mg mb : Str → Option Value} {s : Shared} (prog : Program) (T : PyProof.Rows.Top p lo mean mg mb s.heap) (X : K.In s.heap) (o : KOk K) : ∃ c : Cx, c.prog = prog ∧ c.w = w ∧ c.s₀ = s ∧ c.ad = adT ∧ mg (fnName 80) = some (.ref (adT 80)) := by
  have G : ∀ x v, (x, v) ∈ glob0 → ∃ u, mg x = some u ∧ Rel w adT s.heap.get? u v := by
    intro x v hm
    have e := List.all_eq_true.mp o.glob _ hm
    unfold globB at e
    split at e
    · rename_i u hu
      exact ⟨u, PySem.W.mg_of X T.g hu, rel_ok X e⟩
    · cases e
  refine ⟨{ prog := prog, w := w, ad := adT, s₀ := s, mg := mg, mb := mb, g := T.g, b := T.b, nolimit := T.nolimit, nodigits := T.nodigits, isGlob := G, isNoGlob := ?_, builtins := T.builtins, fns := fun k hk => fn_ok X (o.fns k hk), mfns := ?_,
            K := K, kin := X, khas := o.khas, kmakes := o.kmakes, kkeep := o.kkeep, kover := o.kover, kga := o.kga, kgb := o.kgb, ksa := o.ksa, kattr := ?_, kmeth := ?_ }, rfl, rfl, rfl, rfl, ?_⟩
  · intro x hm
    have e := List.all_eq_true.mp o.noglob _ hm
    unfold noneB at e
    split at e
    · rename_i hu
      exact PySem.W.mg_none_of X T.g hu
    · cases e
  · intro k hk
    rcases (show k = 100 ∨ k = 102 by simpa using hk) with rfl | rfl
    · obtain ⟨ob, pm, code, doc, h1, h2, h3⟩ := fn_ok X o.m100
      obtain ⟨vs, n, h4, h5⟩ := tup_ok (w := w) X o.t100
      exact ⟨ob, pm, code, doc, 81, vs, n, h1, h2, h3, h4, h5⟩
    · obtain ⟨ob, pm, code, doc, h1, h2, h3⟩ := fn_ok X o.m102
      obtain ⟨vs, n, h4, h5⟩ := tup_ok (w := w) X o.t102
      exact ⟨ob, pm, code, doc, 96, vs, n, h1, h2, h3, h4, h5⟩
  · intro x hx
    simp only [List.mem_cons, List.not_mem_nil, or_false] at hx
    rcases hx with rfl | rfl | rfl
    · exact o.ka1
    · exact o.ka2
    · exact o.ka3
  · intro k hk
    simp only [List.mem_cons, List.not_mem_nil, or_false] at hk
    rcases hk with rfl | rfl | rfl | rfl
    · exact ⟨o.m0, o.y0⟩
    · exact ⟨o.m1, o.y1⟩
    · exact ⟨o.m2, o.y2⟩
    · exact ⟨o.m3, o.y3⟩
  · obtain ⟨u, h1, h2⟩ := G (fnName 80) (.fn 80) (by unfold glob0; exact List.mem_append_left _ (List.mem_map.mpr ⟨80, by decide, rfl⟩))
    cases h2 with
    | fn _ a e => rw [h1, e]
end

/-! ### the same, as one thing to be reckoned -/
structure Knw where
  b : Bool
  fns : List FuncData
  fi : List (Option (Option Value))
  ty : List (Option Value)
/-- the look at a global name once more, words compared by one number -/
noncomputable def isStrQ : Value → Str → Bool
  | .str s _, n => PySem.W.Fast.sEq s n
  | _, _ => false
theorem isStrQ_eq (v : Value) (n : Str) : isStrQ v n = v.isStr n := by
  cases v with
  | str s t =>
    show PySem.W.Fast.sEq s n = (s == n)
    rw [Bool.eq_iff_iff, beq_iff_eq, PySem.W.Fast.sEq_iff]
  | _ => rfl
noncomputable def globQ (K : Fg) (p : Str × V) : Bool := match K.lookup mainGlobals with
  | some o => (match o.data with
    | .dict es _ => (match es.toList.find? (fun e => isStrQ e.key p.1) with
      | some e => relB K e.val p.2
      | none => false)
    | _ => false)
  | none => false
theorem globQ_ok {K : Fg} {p : Str × V} (h : globQ K p = true) : globB K p = true := by
  unfold globQ at h
  unfold globB PySem.W.nsIn
  simp only [isStrQ_eq] at h
  split at h
  · rename_i o ho
    rw [ho]
    obtain ⟨c, d, dt, sl⟩ := o
    dsimp only at h
    split at h
    · split at h
      · rename_i he
        dsimp only
        rw [he]
        exact h
      · cases h
    · cases h
  · cases h
noncomputable def nrm (fd : FuncData) : FuncData := { fd with pyModule := .none, code := .none, doc := .none }
noncomputable def isFunB (K : Fg) (a : Addr) : Bool := match K.lookup a with
  | some o => (match o.data with | .func _ => true | _ => false)
  | none => false
noncomputable def dflT (k : Nat) : Value := if k = 100 then .ref 81 else if k = 102 then .ref 96 else .none
noncomputable def fnIx3 : List Nat := fnIx2 ++ [100, 102]
noncomputable def kObs (K : Fg) : Knw :=
  ⟨glob0.all (globQ K) && (noGlob0.all (noneB K) && (fnIx3.all (fun k => isFunB K (adT k) && codeB K (fdOf K (adT k)).code (fnQual k)) && (tupOk K 81 [.int 0, .int (-1)] && (tupOk K 96 [.int 0] && (PySem.W.hasDictIn K (adT 7) &&
    (PySem.W.makesIn K (adT 7) && (PySem.W.keepIn K (.ref (adT 7)) && PySem.W.plainOver K (adT 7)))))))),
   fnIx3.map fun k => nrm (fdOf K (adT k)),
   [PySem.W.findIn K (.ref (adT 7)) "__getattribute__", PySem.W.findIn K (.ref (adT 7)) "__getattr__", PySem.W.findIn K (.ref (adT 7)) "__setattr__", PySem.W.findIn K (.ref (adT 7)) (Str.ofString "data"),
    PySem.W.findIn K (.ref (adT 7)) (Str.ofString "at"), PySem.W.findIn K (.ref (adT 7)) (Str.ofString "end"), PySem.W.findIn K (.ref (adT 7)) (fnName 100), PySem.W.findIn K (.ref (adT 7)) (fnName 101),
    PySem.W.findIn K (.ref (adT 7)) (fnName 102), PySem.W.findIn K (.ref (adT 7)) (fnName 103)],
   [PySem.W.typeIn K (.ref (adT 100)), PySem.W.typeIn K (.ref (adT 101)), PySem.W.typeIn K (.ref (adT 102)), PySem.W.typeIn K (.ref (adT 103))]⟩
noncomputable def kWant : Knw :=
  ⟨true, fnIx3.map fun k => { fdK k .none .none .none with defaults := dflT k },
   [some (some (.builtin "object.__getattribute__")), some none, some (some (.builtin "object.__setattr__")), some none, some none, some none,
    some (some (.ref (adT 100))), some (some (.ref (adT 101))), some (some (.ref (adT 102))), some (some (.ref (adT 103)))],
   [some (.type "function"), some (.type "function"), some (.type "function"), some (.type "function")]⟩
theorem nrm_eq {fd : FuncData} {k : Nat} {d : Value} (e : nrm fd = { fdK k .none .none .none with defaults := d }) : fd = { fdK k fd.pyModule fd.code fd.doc with defaults := d } := by
  cases fd
  simp only [nrm, fdK, docDef, FuncData.mk.injEq] at e ⊢
  exact ⟨e.1, e.2.1, e.2.2.1, e.2.2.2.1, e.2.2.2.2.1, e.2.2.2.2.2.1, e.2.2.2.2.2.2.1, e.2.2.2.2.2.2.2.1, e.2.2.2.2.2.2.2.2.1, trivial, trivial, e.2.2.2.2.2.2.2.2.2.2.2.1, trivial, e.2.2.2.2.2.2.2.2.2.2.2.2.2⟩
theorem fnOk_of {K : Fg} {k : Nat} {d : Value} (h1 : isFunB K (adT k) = true) (h2 : codeB K (fdOf K (adT k)).code (fnQual k) = true) (h3 : nrm (fdOf K (adT k)) = { fdK k .none .none .none with defaults := d }) : FnOk K k d := by
  have h3 := nrm_eq h3
  unfold isFunB at h1
  split at h1
  · rename_i o ho
    split at h1
    · rename_i fd hd
      have e1 : obOf K (adT k) = o := by unfold obOf; rw [ho]; rfl
      have e2 : fdOf K (adT k) = fd := by unfold fdOf; rw [e1, hd]
      refine ⟨by rw [e1]; exact ho, ?_, h2⟩
      rw [e1, hd, ← e2]
      exact congrArg Data.func h3
    · cases h1
  · cases h1
theorem kok_of {K : Fg} (e : kObs K = kWant) : KOk K := by
  have e1 := congrArg Knw.b e
  have e2 : fnIx3.map (fun k => nrm (fdOf K (adT k))) = fnIx3.map fun k => { fdK k .none .none .none with defaults := dflT k } := congrArg Knw.fns e
  have e3 := congrArg Knw.fi e
  have e4 := congrArg Knw.ty e
  simp only [kObs, kWant, Bool.and_eq_true] at e1
  obtain ⟨b1, b2, b3, b4, b5, b6, b7, b8, b9⟩ := e1
  simp only [kObs, kWant, List.cons.injEq] at e3 e4
  obtain ⟨c1, c2, c3, c4, c5, c6, c7, c8, c9, c10, _⟩ := e3
  obtain ⟨d1, d2, d3, d4, _⟩ := e4
  have f := List.map_inj_left.mp e2
  have g : ∀ k ∈ fnIx3, FnOk K k (dflT k) := fun k hk => by
    obtain ⟨h1, h2⟩ := Bool.and_eq_true_iff.mp (List.all_eq_true.mp b3 k hk)
    exact fnOk_of h1 h2 (f k hk)
  refine ⟨List.all_eq_true.mpr fun q hq => globQ_ok (List.all_eq_true.mp b1 q hq), b2, fun k hk => ?_, ?_, ?_, b4, b5, b6, b7, b8, b9, c1, c2, c3, c4, c5, c6, c7, c8, c9, c10, d1, d2, d3, d4⟩
  · have h := g k (List.mem_append_left _ hk)
    have h0 : dflT k = .none := (by decide +kernel : ∀ k ∈ fnIx2, ¬ (k = 100) ∧ ¬ (k = 102)) k hk |> fun h => by unfold dflT; rw [if_neg h.1, if_neg h.2]
    rwa [h0] at h
  · exact g 100 (List.mem_append_right _ (by simp))
  · exact g 102 (List.mem_append_right _ (by simp))

/-- the part of a heap that is looked at: the names of the top, the class, its names, its two tuples of defaults, three tuples, the defs and their codes -/
noncomputable def asW : List Nat := [3, 155, 154, 81, 96, 177, 267, 303] ++ adTab.flatMap fun p => [p.2, p.2 - 1]
noncomputable def fragAt (h : Heap) (l : List Nat) : Fg := l.filterMap fun a => (h.get? a).map fun o => (a, o)
theorem lookup_fm {f : Nat → Option Obj} : ∀ {l : List Nat} {a : Nat} {o : Obj}, List.lookup a (l.filterMap fun a => (f a).map fun o => (a, o)) = some o → f a = some o
  | [], a, o, h => by cases h
  | b :: l, a, o, h => by
    cases hb : f b with
    | none => rw [List.filterMap_cons, hb] at h; exact lookup_fm h
    | some x =>
      rw [List.filterMap_cons, hb] at h
      change List.lookup a ((b, x) :: _) = some o at h
      rw [List.lookup_cons] at h
      split at h
      · rename_i q
        cases h
        rw [beq_iff_eq.mp q]; exact hb
      · exact lookup_fm h
theorem fragIn (h : Heap) (l : List Nat) : (fragAt h l).In h := fun a o e => lookup_fm (f := fun a => h.get? a) e
end

/-! ## V39 -/
section

theorem top_end {p : Program} {lo : List Str} {mean mean' : ExcName → Option Value} {mg mb : Str → Option Value} {s : Shared} {prog : Program} {w : World} {K : Fg} {cl : PySem.W.ClaimW} {ca : Str → Option Addr} {args : List PySem.W.WData}
    {fa sa : Addr} {vs : List Value} {ns : List Int} (T : PyProof.Rows.Top p lo mean mg mb s.heap) (X : K.In s.heap) (o : KOk K) (hf : mg (fnName 80) = some (.ref fa)) (hL : s.heap.IsList sa vs.toArray) (hI : IntsAre vs ns) (hz : ¬ ((63 : Nat) : Int) < ns.length)
    (hg : s.gens = #[]) (hn : ∀ c, cl.raises args c = false) (hp : cl.post args (.bool true) args = true) :
    wpAny (model prog w) callerA (call (.ref fa) [.ref sa]) (fun v s' => PySem.W.GoodWG cl ca mean' args s (.ok (.ret v)) s') (fun e s' => PySem.W.GoodWG cl ca mean' args s (.error e) s') s := by
  obtain ⟨c, e1, e2, e3, e4, e5⟩ := cx_of (w := w) prog T X o
  rw [hf] at e5
  have e5 : fa = adT 80 := by injection e5 with e5; injection e5
  rw [e5, ← e4]
  have len : vs.length = ns.length := by
    clear hL hz
    induction hI with
    | nil => rfl
    | cons n t _ ih => simp [ih]
  have M : MdlC c s.heap.get? (fun _ => none) [] s := by
    refine ⟨⟨s.heap, s.toks, by rw [e3]⟩, fun b o e => e, (fun b o e => by cases e), (fun b o e => by rw [e3] at e; exact e), (fun b o e => by cases e), (fun p hp => by cases hp), by simp⟩
  have h := law_ (c := c) (A := callerA) (n := 20) (rest := []) (Q := fun v cs => v = .bool true) (sa := sa) (vs := vs) (by rw [e3]; exact hL)
    (fun v hv => by obtain ⟨n, t, e⟩ := hI.all v hv; exact ⟨n, t, e⟩) (by lia) ⟨rfl, by decide, by decide⟩ rfl _ _ s [.ref sa] M (.cons _ _ _ _ (.ref sa) .nil)
  rw [e1, e2] at h
  refine wpNoE h fun v s' hP => ?_
  obtain ⟨W', z, cs, l, r, M', rfl⟩ := hP
  (first | cases r using Rel.intE | cases r using Rel.refE | cases r using RelL.nilE | cases r using Rel.strE | cases r using Rel.bytesE | cases r using Rel.noneE | cases r using Rel.boolE | cases r using Rel.listE | cases r using Rel.tupE | cases r using Rel.sdE | cases r using Rel.iddE | cases r using Rel.biE | cases r using Rel.tyE | cases r using Rel.rngE | cases r)
  obtain ⟨⟨h', t', es⟩, hw, _, hbase, _⟩ := M'
  rw [e3] at es hbase
  refine ⟨.inl ⟨_, _, [], rfl, hn, .bool true, hp, (fun _ => ⟨List.nodup_nil, (fun a ha => by cases ha)⟩)⟩, .of_keep fun b o e => hw _ _ (hbase _ _ e), by rw [es], .of_eq (by rw [es]; exact hg)⟩
end

/-! ## V40 -/
section
open PySem.W

abbrev pW : Program := PySem.Challenge.pw_or0067_01
noncomputable def qW : Program := { pW with main := { pW.main with body := [stTop 80] } }
noncomputable def loW : List Str := pW.boundNames.filter fun n => n != fnName 80
noncomputable def obsK (s : Shared) : Knw := kObs (fragAt s.heap asW)
theorem opens : opening pW = plainProg pW.main.scope.names := by kernel_rfl
theorem fences (s : Shared) : fenceModules? pW s = some s := by kernel_rfl
theorem sizes (w : World) : ((boot_heap w.params).isNs mainGlobals && (Array.mk [] : Array GenState).size == 0, (boot_heap w.params).objs.size, (boot_heap w.params).nsMap mainGlobals "__annotations__") = (true, 11, some (Value.ref 6)) := by kernel_rfl

/-- the same run over a tree of objects, by the library's quick twins -/
noncomputable def topRunT (p : Program) (w : World) (n₀ : Nat) (ann : Option Value) : Nat → SharedT → Thread → Option SharedT
  | 0, _, _ => none
  | n + 1, s, t => match through t with
    | true => some s
    | false => match Fast.tw6613529449190102663 n₀ ann t with
      | false => none
      | true => match Fast.tw10156331382660048174 (Fast.tw11892475500146522536 Fast.tw14364793385576792824) p w s t with
        | some (s', t') => topRunT p w n₀ ann n s' t'
        | none => none
theorem topRunT_of {p : Program} {w : World} {n₀ : Nat} {ann : Option Value} : ∀ {n : Nat} {s s' : SharedT} {t : Thread}, topRunT p w n₀ ann n s t = some s' → topRun treeTable p w n₀ ann n s.abs t = some s'.abs
  | 0, _, _, _, h => by cases h
  | n + 1, s, s', t, h => by
    unfold topRunT at h
    rw [← Fast.te6613529449190102663, ← Fast.te10156331382660048174, ← Fast.te11892475500146522536, ← Fast.te14364793385576792824] at h
    unfold topRun
    cases ht : through t with
    | true => rw [ht] at h; cases h; rfl
    | false =>
      rw [ht] at h
      cases hk : stepOk n₀ ann t with
      | false => rw [hk] at h; cases h
      | true =>
        rw [hk] at h
        cases hs : stepT (denote treeTable) p w s t with
        | none => rw [hs] at h; cases h
        | some r => obtain ⟨s₂, t₂⟩ := r; rw [hs] at h; rw [stepT_spec hs]; exact topRunT_of h
theorem left_of {p q : Program} {loose : List Str} {α : Type} {Yf : Shared → α} {Yt : SharedT → α} {Ya : World → α} {N : Nat} {H₀ : Params → Heap} {gs₀ : Array GenState} {d₀ : Drawn} {k₀ : Nat} {m₀ : Nat} {ann : Option Value} {M : Nat} {S₀ : Params → OsState → SharedT}
    (open_ : ∀ w : World, (fencedOpening treeTable p w N).map (fun s => (s.heap, s.gens, s.drawn, s.toks)) = some (H₀ w.params, gs₀, d₀, k₀))
    (size : ∀ w : World, ((H₀ w.params).isNs mainGlobals && gs₀.size == 0, (H₀ w.params).objs.size, (H₀ w.params).nsMap mainGlobals "__annotations__") = (true, m₀, ann)) (le : Nat.ble M N = true) (same : ∀ s : SharedT, Yf s.abs = Yt s)
    (tree : ∀ P os, (⟨H₀ P, gs₀, d₀, k₀, os⟩ : Shared) = (S₀ P os).abs)
    (run : ∀ w : World, (fun os => (topRunT p w m₀ ann M (S₀ w.params os) (topStub p)).map (fun s₁ => ((staticsOk (importedModules p.main.body) (H₀ w.params) s₁.abs.heap && namesBound p s₁.abs.heap && gensDone s₁.abs && laidKept (H₀ w.params) s₁.abs.heap),
        Fast.tw4187177175401517315 q loose (importedModules p.main.body) (fun _ => true) true s₁.abs, Yt s₁))) = fun _ => some (true, openGood q loose, Ya w)) : LeftO p q loose (fun _ => true) Yf Ya N true := fun w => by
  obtain ⟨⟨h, gs, d, k, os⟩, e, e'⟩ := Option.map_eq_some_iff.mp (open_ w)
  obtain ⟨rfl, rfl, rfl, rfl⟩ : h = H₀ w.params ∧ gs = gs₀ ∧ d = d₀ ∧ k = k₀ := by simpa using e'
  obtain ⟨z1, z2, z3⟩ : _ ∧ _ ∧ _ := by simpa only [Prod.mk.injEq] using size w
  obtain ⟨s₂, r, l⟩ := Option.map_eq_some_iff.mp (congrFun (run w) os)
  obtain ⟨l1, l2, l3⟩ : _ ∧ _ ∧ _ := by simpa only [Prod.mk.injEq] using l
  rw [← Fast.te4187177175401517315] at l2
  rw [← same] at l3
  have r := topRunT_of r
  rw [← tree] at r
  generalize s₂.abs = s₁ at r l1 l2 l3
  have r := topRun_mono (N - M) _ _ _ _ r
  rw [show M + (N - M) = N by have := Nat.le_of_ble_eq_true le; lia] at r
  have t : topFrom treeTable p w N ⟨H₀ w.params, gs, d, k, os⟩ = some s₁ := by
    unfold topFrom
    dsimp only
    rw [z1, z2, z3, r]
    show (match staticsOk (importedModules p.main.body) (H₀ w.params) s₁.heap && namesBound p s₁.heap && gensDone s₁ && laidKept (H₀ w.params) s₁.heap with | true => _ | false => _) = _
    rw [l1]
  unfold openEnds
  rw [e]
  show (topFrom treeTable p w N _).map _ = _
  rw [t]
  exact congrArg some (Prod.ext l2 l3)

noncomputable def btGo (l : List Obj) : Nat → Nat → Nat → BT
  | 0, _, _ => .nil
  | n + 1, a, b => match l[b]? with
    | some o => .node o (btGo l n (2 * a) (a + b)) (btGo l n (2 * a) (2 * a + b))
    | none => .nil
noncomputable def sT0 (P : Params) (os : OsState) : SharedT := ⟨btGo (boot_heap P).objs.toList 5 1 0, 11, (boot_heap P).life, Array.mk [], boot_drawn, boot_toks, os⟩
theorem boots (P : Params) (os : OsState) : (⟨boot_heap P, Array.mk [], boot_drawn, boot_toks, os⟩ : Shared) = (sT0 P os).abs := by kernel_rfl

noncomputable def getT (s : SharedT) (a : Nat) : Option Obj := match Nat.blt a s.n with
  | true => alive ((s.tree.get a).getD default)
  | false => none
theorem getT_eq (s : SharedT) (a : Nat) : s.abs.heap.get? a = getT s a := by
  unfold getT SharedT.abs
  cases h : Nat.blt a s.n with
  | false => exact abs_get_none (fun q => by rw [Nat.blt_eq.mpr q] at h; cases h)
  | true =>
    unfold Heap.get?
    dsimp only
    rw [absHeap_at, if_pos (Nat.blt_eq.mp h)]
    obtain ⟨c, d, dt, sl⟩ := (s.tree.get a).getD default
    cases dt <;> rfl
noncomputable def fragT (s : SharedT) (l : List Nat) : Fg := l.filterMap fun a => (getT s a).map fun o => (a, o)
noncomputable def obsT (s : SharedT) : Knw := kObs (fragT s asW)
theorem obsT_eq (s : SharedT) : obsK s.abs = obsT s := by
  unfold obsK obsT fragAt fragT
  simp only [getT_eq]

theorem runs (w : World) : (fun os => (topRunT pW w 11 (some (.ref 6)) 3100 (sT0 w.params os) (topStub pW)).map (fun s₁ => ((staticsOk (importedModules pW.main.body) (boot_heap w.params) s₁.abs.heap && namesBound pW s₁.abs.heap && gensDone s₁.abs && laidKept (boot_heap w.params) s₁.abs.heap),
    Fast.tw4187177175401517315 qW loW (importedModules pW.main.body) (fun _ => true) true s₁.abs, obsT s₁))) = fun _ => some (true, openGood qW loW, kWant) := by kernel_rfl
theorem lefts : LeftO pW qW loW (fun _ => true) obsK (fun _ => kWant) 4000 true := left_of (boot_open opens (by kernel_rfl) fences) sizes (by kernel_rfl) obsT_eq boots runs
/-- the looks at the text, one by one, each by its quick twin -/
theorem look1 : noRoadLSs { strict := !(importedModules pW.main.body).all cThrough.contains, foot := none, bare := (["vars", "dir", "locals"] : List Str).filter (readsOut pW pW.main.body) } pW.main.body = true := by
  rw [Fast.te8326940854005059898, Fast.te13343964577679436407]; kernel_rfl
theorem look2 : namesMeet pW pW.main.body (fun _ n => attrL n) = true := by rw [Fast.te17119622794617984870, Fast.te17868728402115742887]; kernel_rfl
theorem look3 : namesResolve pW = true := by rw [Fast.te8377067652309620493]; kernel_rfl
theorem look4 : pW.boundNames.all (fun n => !worldNames.contains n) = true := by rw [Fast.te18344453789297297638]; kernel_rfl
theorem looks : looksOpen pW = true := by
  unfold looksOpen
  refine look_both (look_both (look_both (look_both (look_both ?_ ?_) look3) look4) look1) look2
  · rw [Fast.te11788848310118352699]; kernel_rfl
  · rw [Fast.te9807087744658564304]; kernel_rfl
theorem saidRow : PySem.Challenge.rw_or0067_01.row.wellSaid = true := by
  unfold OpenRow.wellSaid
  refine look_both (look_both ?_ ?_) ?_
  · unfold OpenRow.partSaid
    iterate 13 (refine look_both ?_ ?_)
    · exact looks
    all_goals kernel_rfl
  · rw [Fast.te18344453789297297638]; kernel_rfl
  · kernel_rfl
theorem said : PySem.Challenge.rw_or0067_01.wellSaid = true := by
  unfold OpenLaw.wellSaid
  iterate 18 (refine look_both ?_ ?_)
  · exact saidRow
  · kernel_rfl
  · rw [Fast.te10501279942588096481]; kernel_rfl
  · rw [Fast.te8179353310426384613]; kernel_rfl
  · kernel_rfl
  · kernel_rfl
  · rw [Fast.te8326940854005059898, Fast.te797321630700447069, Fast.te9572597257264208301]; kernel_rfl
  · rw [Fast.te9558739934217749035]; kernel_rfl
  · rw [Fast.te16286561074155671207]; kernel_rfl
  · kernel_rfl
  · rw [Fast.te797321630700447069, Fast.te6984425678791042302, Fast.named_eq]; kernel_rfl
  · kernel_rfl
  · kernel_rfl
  · rw [Fast.te17119622794617984870, Fast.te9572597257264208301]; kernel_rfl
  · rw [Fast.te10792542408131684335]; kernel_rfl
  · rw [Fast.te10792542408131684335]; kernel_rfl
  · rw [Fast.te10792542408131684335, Fast.named_eq]; kernel_rfl
  · rw [Fast.te17119622794617984870, Fast.te10792542408131684335]; kernel_rfl
  · rw [Fast.te17119622794617984870]; kernel_rfl

/-- the tables of names, by the library's quick twins -/
theorem tabs' : Fast.tw6116379765354995101 ⟨fun sc n _ => Fast.tw15985051520779696433 sc n, fun _ _ _ ok => ok, fun _ => true, true, false, fun a b => a && b⟩ pW.main = true := by kernel_rfl
theorem tabs_of {p : Program} (h : TablesWhole.wModule TablesWhole.holds p.main = true) (h1 : p.modules = []) (h2 : p.parses = []) (h3 : p.harvested = []) : p.tablesWhole = true := by
  unfold Program.tablesWhole TablesWhole.wProgram TablesWhole.Alg.all
  rw [h1, h2, h3]
  show (TablesWhole.wModule TablesWhole.holds p.main && _) = true
  rw [h]; rfl
theorem bareW : pW.bare := ⟨rfl, rfl, rfl, rfl, rfl, tabs_of (by
  have h := tabs'
  rw [← Fast.te6116379765354995101, ← Fast.te15985051520779696433] at h
  exact h) rfl rfl rfl⟩
end
end U
end

open PySem PySem.W PyProof.Rows
set_option maxHeartbeats 8000000 in
theorem PySem.Challenge.cw_or0067_01_holds : PySem.Challenge.rw_or0067_01.Holds := by
  w_on
  refine holds_law U.said fun said => ?_
  refine holds_open (q := U.qW) (loose := U.loW) (Xt := fun _ => true) (XP := fun _ _ => True) (Yf := U.obsK) (Ya := fun _ => U.kWant) (YP := fun _ h => ∃ K : Frag, K.In h ∧ U.KOk K) (N := 4000) U.lefts
    (fun w s e => ⟨_, U.fragIn _ _, U.kok_of e⟩) (fun w h h' ⟨K, X, o⟩ k => ⟨K, X.keeps k, o⟩) (fun _ _ => trivial) (fun _ _ _ _ _ => trivial) (by rfl) (by rfl) (by rfl) (fun _ _ => recFacts_nil rfl) (by rfl) said (by kernel_rfl) U.bareW ?hw ?hc
  case hw => w_witness2
  case hc =>
    intro w s₀ s₁ mg mb G Y fa o pm cd doc dV kV ho hd hcd hD hmg hg args vals as hpre hlay hrd hwl hlo
    obtain ⟨K, KX, ok⟩ := Y
    clear ho hd hcd hD
    wrow_args hpre hlay hrd hwl hlo
    refine U.top_end G.T KX ok hmg (by assumption) (by assumption) (by assumption) hg (raisesW_false ?nr) ?po
    case nr => wrow_none_raised
    case po => wrow_post
