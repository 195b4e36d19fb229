import PyProof.Rows.All
import Wide.All
import OpenK.AllK
import Wide.FinOn
import HandS.ForMost
import HandS.Conv
import HandS.TupAny
import HandS.Gcd
import HandS.SetKeys
import KE.SortData
import PyProof.DictMoreH
import HandS.Replace
import HandS.StrMore
import HandS.ReplaceList
import HandS.IsInst
import HandS.Exc
import HandS.Walk
import PySem.Challenge.RW_wellbegun_k29_word_machines
set_option Elab.async false
set_option linter.all false
set_option maxRecDepth 100000
/-! KA: data that stay, sorted over them, comparisons, setdefault with tuple keys, defs by name -/
namespace N1
open PySem PySem.Spec PyProof.Rows L2

/-- tuples stay -/
def TK (H H' : Hp) : Prop := ∀ b xs, H b = some (.tup xs) → H' b = some (.tup xs)
theorem TK.refl (H : Hp) : TK H H := fun _ _ h => h
theorem TK.trans {H H1 H2 : Hp} (a : TK H H1) (b : TK H1 H2) : TK H H2 := fun c xs h => b c xs (a c xs h)
theorem TK.same {H H' : Hp} (e : Same H H') : TK H H' := fun b xs h => e b _ h
theorem TK.put {H H' : Hp} {a : Addr} {o : HO} (t : TK H H') (h : ∀ xs, H' a ≠ some (.tup xs)) : TK H (upd H' a o) := fun b xs e => by
  by_cases q : b = a
  · subst q; exact absurd (t _ _ e) (h xs)
  · rw [upd_ne q]; exact t b xs e
theorem TK.new {H H' : Hp} {a : Addr} {o : HO} (t : TK H H') (h : H' a = none) : TK H (upd H' a o) := t.put fun xs => by rw [h]; intro z; cases z
theorem TK.lst {H H' : Hp} {a : Addr} {ys : List V} {o : HO} (t : TK H H') (h : H' a = some (.lst ys)) : TK H (upd H' a o) := t.put fun xs => by rw [h]; intro z; cases z
theorem TK.dk {H H' : Hp} {a : Addr} {ys : List (Key × V)} {o : HO} (t : TK H H') (h : H' a = some (.dK ys)) : TK H (upd H' a o) := t.put fun xs => by rw [h]; intro z; cases z
theorem TK.dt {H H' : Hp} {a : Addr} {ys : List (List Key × V)} {o : HO} (t : TK H H') (h : H' a = some (.dT ys)) : TK H (upd H' a o) := t.put fun xs => by rw [h]; intro z; cases z
theorem TK.frz {H H' : Hp} {a : Addr} {ob : Obj} {u o : HO} (t : TK H H') (h : H' a = some (.frz ob u)) : TK H (upd H' a o) := t.put fun xs => by rw [h]; intro z; cases z

mutual
/-- a value that is data, for good: whole numbers, truth values, None, texts, tuples of these -/
inductive Im (H : Hp) : V → PyData → Prop
  | non : Im H .non .none
  | bl (b : Bool) : Im H (.bl b) (.bool b)
  | int (i : Int) : Im H (.int i) (.int i)
  | str (x : Str) : Im H (.str x) (.str x)
  | tup {a : Addr} {xs : List V} {ds : List PyData} : H a = some (.tup xs) → Ims H xs ds → Im H (.ref a) (.tuple ds)
inductive Ims (H : Hp) : List V → List PyData → Prop
  | nil : Ims H [] []
  | cons {v : V} {vs : List V} {d : PyData} {ds : List PyData} : Im H v d → Ims H vs ds → Ims H (v :: vs) (d :: ds)
end
mutual
theorem Im.mono {H H' : Hp} (t : TK H H') : ∀ {v : V} {d : PyData}, Im H v d → Im H' v d
  | _, _, .non => .non
  | _, _, .bl b => .bl b
  | _, _, .int i => .int i
  | _, _, .str x => .str x
  | _, _, .tup h r => .tup (t _ _ h) (Ims.mono t r)
theorem Ims.mono {H H' : Hp} (t : TK H H') : ∀ {vs : List V} {ds : List PyData}, Ims H vs ds → Ims H' vs ds
  | _, _, .nil => .nil
  | _, _, .cons h r => .cons (Im.mono t h) (Ims.mono t r)
end
mutual
theorem Im.dp {K : PySem.W.Frag} {H : Hp} : ∀ {v : V} {d : PyData}, Im H v d → Dp K H v d
  | _, _, .non => .non
  | _, _, .bl b => .bl b
  | _, _, .int i => .int i
  | _, _, .str x => .str x
  | _, _, .tup h r => .tup (SqT.of h) (Ims.dp r)
theorem Ims.dp {K : PySem.W.Frag} {H : Hp} : ∀ {vs : List V} {ds : List PyData}, Ims H vs ds → DpAll K H vs ds
  | _, _, .nil => .nil
  | _, _, .cons h r => .cons (Im.dp h) (Ims.dp r)
end
theorem Im.int_of {H : Hp} {v : V} {i : Int} (h : Im H v (.int i)) : v = .int i := by cases h; rfl
theorem Im.str_of {H : Hp} {v : V} {x : Str} (h : Im H v (.str x)) : v = .str x := by cases h; rfl
theorem Im.bl_of {H : Hp} {v : V} {b : Bool} (h : Im H v (.bool b)) : v = .bl b := by cases h; rfl
theorem Im.non_of {H : Hp} {v : V} (h : Im H v .none) : v = .non := by cases h; rfl
theorem Im.tup_of {H : Hp} {v : V} {ds : List PyData} (h : Im H v (.tuple ds)) : ∃ a xs, v = .ref a ∧ H a = some (.tup xs) ∧ Ims H xs ds := by
  cases h with
  | tup h r => exact ⟨_, _, rfl, h, r⟩
theorem Ims.length {H : Hp} : ∀ {vs : List V} {ds : List PyData}, Ims H vs ds → vs.length = ds.length
  | _, _, .nil => rfl
  | _, _, .cons _ r => by simp [Ims.length r]
theorem Ims.get {H : Hp} : ∀ {vs : List V} {ds : List PyData} {i : Nat} {d : PyData}, Ims H vs ds → ds[i]? = some d → ∃ v, vs[i]? = some v ∧ Im H v d
  | _, _, _, _, .nil, e => by simp at e
  | _, _, 0, _, .cons h _, e => by simp at e; subst e; exact ⟨_, rfl, h⟩
  | _, _, i + 1, _, .cons _ r, e => by
    obtain ⟨v, h1, h2⟩ := Ims.get (i := i) r (by simpa using e)
    exact ⟨v, by simpa using h1, h2⟩
theorem Ims.back {H : Hp} : ∀ {vs : List V} {ds : List PyData} {i : Nat} {v : V}, Ims H vs ds → vs[i]? = some v → ∃ d, ds[i]? = some d ∧ Im H v d
  | _, _, _, _, .nil, e => by simp at e
  | _, _, 0, _, .cons h _, e => by simp at e; subst e; exact ⟨_, rfl, h⟩
  | _, _, i + 1, _, .cons _ r, e => by
    obtain ⟨v, h1, h2⟩ := Ims.back (i := i) r (by simpa using e)
    exact ⟨v, by simpa using h1, h2⟩
theorem Ims.append {H : Hp} : ∀ {vs ws : List V} {ds es : List PyData}, Ims H vs ds → Ims H ws es → Ims H (vs ++ ws) (ds ++ es)
  | _, _, _, _, .nil, s => s
  | _, _, _, _, .cons h r, s => .cons h (Ims.append r s)
theorem Ims.one {H : Hp} {v : V} {d : PyData} (h : Im H v d) : Ims H [v] [d] := .cons h .nil
theorem Ims.snoc {H : Hp} {vs : List V} {ds : List PyData} {v : V} {d : PyData} (r : Ims H vs ds) (h : Im H v d) : Ims H (vs ++ [v]) (ds ++ [d]) := r.append (.one h)
theorem Ims.ints {H : Hp} : ∀ (ns : List Int), Ims H (ns.map V.int) (ns.map PyData.int)
  | [] => .nil
  | n :: ns => .cons (.int n) (Ims.ints ns)
theorem Ims.strs {H : Hp} : ∀ (ns : List Str), Ims H (ns.map V.str) (ns.map PyData.str)
  | [] => .nil
  | n :: ns => .cons (.str n) (Ims.strs ns)
theorem Ims.ints_of {H : Hp} : ∀ {ns : List Int} {vs : List V}, Ims H vs (ns.map PyData.int) → vs = ns.map V.int
  | [], _, h => by cases h; rfl
  | n :: ns, _, h => by
    cases h with
    | cons h r => rw [h.int_of, Ims.ints_of r]; rfl
theorem Ims.strs_of {H : Hp} : ∀ {ns : List Str} {vs : List V}, Ims H vs (ns.map PyData.str) → vs = ns.map V.str
  | [], _, h => by cases h; rfl
  | n :: ns, _, h => by
    cases h with
    | cons h r => rw [h.str_of, Ims.strs_of r]; rfl
theorem Ims.at_ {H : Hp} {β : Type} {enc : β → PyData} {vs : List V} {bs : List β} {i : Nat} {b : β} (r : Ims H vs (bs.map enc)) (e : bs[i]? = some b) : ∃ v, vs[i]? = some v ∧ Im H v (enc b) :=
  r.get (by rw [List.getElem?_map, e]; rfl)
theorem Ims.at_back {H : Hp} {β : Type} {enc : β → PyData} {vs : List V} {bs : List β} {i : Nat} {v : V} (r : Ims H vs (bs.map enc)) (e : vs[i]? = some v) : ∃ b, bs[i]? = some b ∧ Im H v (enc b) := by
  obtain ⟨d, h1, h2⟩ := r.back e
  rw [List.getElem?_map] at h1
  cases q : bs[i]? with
  | none => rw [q] at h1; cases h1
  | some b => rw [q] at h1; cases h1; exact ⟨b, rfl, h2⟩
/-- a list of data at a -/
def Ls (H : Hp) (a : Addr) (ds : List PyData) : Prop := ∃ xs, H a = some (.lst xs) ∧ Ims H xs ds

/-! ### sorted of data -/
def rSortD {β : Type} (K : PySem.W.Frag) (enc : β → PyData) : List V → Hp → VK → Prop := fun vs H Q => ∃ (a : Addr) (xs : List V) (bs : List β), vs = [.ref a] ∧ SqL K H a xs ∧ Ims H xs (bs.map enc) ∧
  PySem.W.AllAlike (bs.map enc) ∧ PySem.W.Sortable (bs.map enc) ∧ (∀ b ∈ bs, (enc b).depth ≤ 50) ∧
  ∀ (p : Addr) (ys : List V), H p = none → Ims H ys ((bs.mergeSort (PySem.W.dataLe false enc)).map enc) → Q (.ref p) (upd H p (.lst ys))
theorem each_of {H : Hp} {β : Type} {enc : β → PyData} : ∀ {bs : List β} {xs : List V} {us : List Value}, Ims H xs (bs.map enc) → Vals xs us → PySem.W.EachIs (fun (u : Value) (b : β) => ∃ x, RelV x u ∧ Im H x (enc b)) us bs
  | [], _, _, h, r => by cases h; cases r; exact .nil
  | b :: bs, _, _, h, r => by
    cases h with
    | cons h1 h2 =>
      cases r with
      | cons r1 r2 => exact .cons ⟨_, r1, h1⟩ (each_of h2 r2)
theorem of_each {H : Hp} {β : Type} {enc : β → PyData} : ∀ {bs : List β} {us : List Value}, PySem.W.EachIs (fun (u : Value) (b : β) => ∃ x, RelV x u ∧ Im H x (enc b)) us bs → ∃ xs, Vals xs us ∧ Ims H xs (bs.map enc)
  | _, _, .nil => ⟨[], .nil, .nil⟩
  | _, _, .cons ⟨x, h1, h2⟩ r => by
    obtain ⟨xs, k1, k2⟩ := of_each r
    exact ⟨x :: xs, .cons h1 k1, .cons h2 k2⟩
theorem cr_sortD {X : Cx} {β : Type} {enc : β → PyData} (hu : X.A.units + 60 < cLine) : CallR X (.builtin "sorted") (rSortD X.K enc) := by
  intro pins s σ H vs us Q I r h
  obtain ⟨a, xs, bs, rfl, hs, hx, hal, hk, hd, q⟩ := h
  obtain ⟨its, rv, hl, hz⟩ := I.list hs
  obtain ⟨u, rfl, ru⟩ := vals1 r
  obtain rfl : u = Value.ref a := ru
  have e := each_of hx rv
  have hlen : bs.length ≤ sizeLine := by
    have := hx.length
    rw [List.length_map] at this
    omega
  refine PySem.W.sorted_data (enc := enc) (bs := bs) (vs := its) hl.isList e (e.mono fun v b ⟨x, r1, r2⟩ => Dp.reads I (enc b) x v r2.dp r1) hal hk hlen (fun b hb => by have := hd b hb; omega) fun out ho er => ?_
  obtain ⟨ys, k1, k2⟩ := of_each er
  have hf : H (s.heap.objs.size + 1) = none := I.hok.fresh (Nat.le_succ _)
  obtain ⟨c, hc⟩ := sortedAll_at s.heap its (List.toArray out)
  have hl2 : ys.length ≤ sizeLine := by rw [k1.length, ho]; exact hlen
  exact ⟨.ref (s.heap.objs.size + 1), upd H (s.heap.objs.size + 1) (.lst ys), I.laid (t' := s.toks) (fun b o q => sortedAll_old q) (Nat.le_succ _) ⟨hl2, out, c, k1, hc⟩, rfl, q _ ys hf k2⟩
end N1
set_option Elab.async false
set_option linter.all false
set_option maxRecDepth 100000
/-! KB: defs by name, comparisons of data, setdefault with tuple keys, text times a number, replace in a loop over signs -/
namespace N1
open PySem PySem.Spec PyProof.Rows L2

/-! ### defs by name -/
/-- the module's name x holds a def that keeps the promise sp -/
structure Df (P : Program) (w : World) (K : PySem.W.Frag) (mg : Str → Option Value) (base : Heap) (k : Nat) (x : Str) (ps : List Str) (sp : Sp) : Prop where
  ex : ∃ (f : Addr) (fd : FuncData), FnOk P w K mg base CX0 k f fd ps sp ∧ mg x = some (.ref f) ∧ PySem.W.keepIn K (.ref f) = true ∧ Binds K fd ps []
def tD (sp : Sp) (t : TA) : TE := fun σ H Q => t σ H fun vs H1 => sp vs H1 Q E0
section
variable {X : Cx} {k : Nat} {ps : List Str} {sp : Sp} {x : Str} {p pos : Pos} {e : Expr} {es : List Expr} {t : TA}
theorem tD_of {sp : Sp} {t : TA} : tD sp t = tCall sp [] E0 t := by
  funext σ H Q
  unfold tD tCall
  congr 1
  funext vs H1
  rw [List.append_nil]
theorem pe_d (D : Df X.prog X.w X.K X.mg X.base k x ps sp) (hr : Room k X.A) (hg : Gl X x) (ha : PA X (e :: es) t)
    (hdb : (x == ("__debug__" : Str)) = false := by decide) (he : starEach (e :: es) X.env = (false, eval e X.env) :: starEach es X.env := by rfl) (hpl : (backTo pos (starEach es X.env)).any (·.1) = false := by rfl) :
    PE X (.Call (.Name x p) (e :: es) [] pos) (tD sp t) := by
  obtain ⟨f, fd, F, hm, hk, hb⟩ := D.ex
  rw [tD_of]
  exact pe_call F hr hg hm hk hb .nil pass0 ha hdb he hpl
theorem pe_d0 (D : Df X.prog X.w X.K X.mg X.base k x ps sp) (hr : Room k X.A) (hg : Gl X x) (hdb : (x == ("__debug__" : Str)) = false := by decide) : PE X (.Call (.Name x p) [] [] pos) (tD sp tNil) := by
  obtain ⟨f, fd, F, hm, hk, hb⟩ := D.ex
  rw [tD_of]
  exact pe_call0 F hr hg hm hk hb .nil pass0 hdb
end

/-! ### what may change -/
/-- all that was tracked stands as it stood, but at S -/
def Kp (S : List Addr) (H H' : Hp) : Prop := ∀ b o, H b = some o → b ∉ S → H' b = some o
theorem Kp.refl (S : List Addr) (H : Hp) : Kp S H H := fun _ _ h _ => h
theorem Kp.trans {S : List Addr} {H H1 H2 : Hp} (a : Kp S H H1) (b : Kp S H1 H2) : Kp S H H2 := fun c o h n => b c o (a c o h n) n
theorem Kp.of_same {S : List Addr} {H H' : Hp} (e : Same H H') : Kp S H H' := fun b o h _ => e b o h
theorem Kp.put {S : List Addr} {H H' : Hp} {a : Addr} {o : HO} (e : Kp S H H') (h : H a = none ∨ a ∈ S) : Kp S H (upd H' a o) := fun b u q n => by
  by_cases hb : b = a
  · subst hb
    rcases h with h | h
    · rw [h] at q; cases q
    · exact absurd h n
  · rw [upd_ne hb]; exact e b u q n
theorem Kp.none_of {S : List Addr} {H H' : Hp} (e : Kp S H H') {a : Addr} (h : H' a = none) (n : a ∉ S) : H a = none := by
  cases q : H a with
  | none => rfl
  | some o => rw [e a o q n] at h; cases h
theorem Same.put {H H' : Hp} {a : Addr} {o : HO} (e : Same H H') (h : H a = none) : Same H (upd H' a o) := fun b u q => by
  rw [upd_ne (ne_of_none q h)]
  exact e b u q
theorem Same.new {H : Hp} {a : Addr} {o : HO} (h : H a = none) : Same H (upd H a o) := Same.put (Same.refl H) h

/-! ### data compared -/
def rLtD (K : PySem.W.Frag) : R2 := fun x y H Q => ∃ d e, Im H x d ∧ Im H y e ∧ PySem.W.alike d e = true ∧ d ≠ .none ∧ d.depth ≤ 50 ∧ Q (.bl (PySem.W.dataLt d e)) H
theorem op_ltD {X : Cx} (hu : X.A.units + 60 < cLine) : OpR X (compareOp .Lt) (rLtD X.K) := by
  intro pins s σ H x y v u Q I rx ry h
  obtain ⟨d, e, hd, he, al, hn, dp, q⟩ := h
  obtain ⟨as, r1⟩ := Dp.reads I d x v hd.dp rx
  obtain ⟨bs, r2⟩ := Dp.reads I e y u he.dp ry
  exact PySem.W.rcLt_alike d e X.A s v u as bs r1 r2 al hn (by omega) X.prog X.w X.xe _ ⟨.bl _, H, I, rfl, q⟩

/-! ### d.setdefault(k, x), the keys tuples -/
section
variable {X : Cx} {pins : List (Addr × Obj)} {σ : L2.St} {H : Hp} {s : Shared} {a b : Addr} {u r : Value} {d : V} {k : List Key} {A : Around} {E : Value → Shared → Prop}
theorem d_setdT {kvs : List (List Key × V)} {Q : Value → Shared → Prop} (hu : A.units + 1 < cLine) (I : Inv X pins σ H s) (e : H a = some (.dT kvs)) (eb : H b = some (.tup (k.map kV))) (rd : L2.RelV d r) (hl : kvs.length < sizeLine)
    (h1 : ∀ v, valV kvs k = some v → ∀ (w' : Value) (s' : Shared), Inv X pins σ H s' → L2.RelV v w' → Q w' s') (h2 : valV kvs k = none → ∀ (w' : Value) (s' : Shared), Inv X pins σ (upd H a (.dT (putK kvs k d))) s' → L2.RelV d w' → Q w' s') :
    wpAny (model X.prog X.w) A (call (.builtin "dict.setdefault") [.ref a, .ref b, r]) Q E s := by
  obtain ⟨z, hd, xs, rel, dd⟩ := dt_of I.hok e
  have hz : xs.length ≤ sizeLine := by
    rw [← Paired.length rel]
    exact z
  have val := KT.val rel k
  refine call_setdefault_heap (hsz := hz) (knd := tupleKind (mixKind X.prog X.w)) (tupleKind_room_in1 hu) (key_of I.hok eb) hd dd (fun p hp => ?_) fun hn h' dd' hs => ?_
  · rw [hp] at val
    cases q0 : valV kvs k with
    | none => rw [q0] at val; exact (show False from val).elim
    | some v0 => rw [q0] at val; exact h1 v0 q0 _ _ (I.tok _) val
  · rw [hn] at val
    cases q0 : valV kvs k with
    | some v0 => rw [q0] at val; exact (show False from val).elim
    | none =>
      have hl2 : (putK kvs k d).length ≤ sizeLine := by
        have := length_putK kvs k d
        omega
      obtain ⟨q, es, ep, hq, c2, c3, c4, _, c5⟩ := dd'
      refine h2 q0 _ _ (d_write (t' := s.toks + _) I (by rw [e]; exact True.intro) hs ⟨q, hq⟩ ⟨hl2, hd, _, (rel.put k eb rd).keeps fun c ys ec => ?_, q, es, ep, hq, c2, c3, c4, c5⟩) rd
      exact (upd_ne (ne_of ec e (fun z => nomatch z))).trans ec
end
def tDSetdT (td ty tx : TE) : TE := fun σ H Q => td σ H fun x H1 => ∃ a, x = .ref a ∧ IsD H1 a ∧ ty σ H1 fun y H2 => tx σ H2 fun z H3 => ∃ (kvs : List (List Key × V)) (k : List Key) (b : Addr), H3 a = some (.dT kvs) ∧ y = .ref b ∧ H3 b = some (.tup (k.map kV)) ∧ kvs.length < sizeLine ∧
  (∀ v, valV kvs k = some v → Q v H3) ∧ (valV kvs k = none → Q z (upd H3 a (.dT (putK kvs k z))))
section
variable {X : Cx} {o e f : Expr} {td ty tx : TE} {apos cpos : Pos}
theorem pe_dsetdT (hu : X.A.units + 1 < cLine) (ho : PE X o td) (he : PE X e ty) (hf : PE X f tx) (m : M2 X o "setdefault" apos e f cpos) : PE X (.Call (.Attribute o "setdefault" apos) [e, f] [] cpos) (tDSetdT td ty tx) := by
  constructor
  intro pins s σ H Q I h
  refine wpAny_Call_method m.base m.few m.line PySem.F.plainAttrs_dict PySem.F.slot_dict_setdefault PySem.F.type_dict_setdefault (thn (ho.run pins s σ H _ I h) fun u s1 ⟨x, H1, I1, rx, a, ex, d, q1⟩ => ?_)
  subst ex
  have eu : u = Value.ref a := rx
  subst eu
  obtain ⟨t1, t2, _⟩ := isD_at I1 d
  refine ⟨t1, t2, ?_⟩
  rw [m.trees]
  refine Calls.callWith_builtin rfl (Calls.evalArgs_plain (Calls.spliced_cons (thn (he.run pins s1 σ H1 _ I1 q1) fun iv s2 ⟨y, H2, I2, ry, q2⟩ =>
    Calls.spliced_cons (thn (hf.run pins s2 σ H2 _ I2 q2) fun fv s3 ⟨z, H3, I3, rz, kvs, k, b, ea, ey, eb, hl, q3, q4⟩ => Calls.spliced_nil ?_))))
  subst ey
  have ei : iv = Value.ref b := ry
  subst ei
  exact d_setdT hu I3 ea eb rz hl (fun v hv w' s4 I4 rw' => ⟨v, H3, I4, rw', q3 v hv⟩) (fun hn w' s4 I4 rw' => ⟨z, upd H3 a (.dT (putK kvs k z)), I4, rw', q4 hn⟩)
end

/-! ### xs[i], read as o[i] op= e reads it -/
def gL (K : PySem.W.Frag) : V → V → Hp → VK → Prop := rIxL K
end N1
set_option Elab.async false
set_option linter.all false
set_option maxRecDepth 100000
/-! KC: a text times a number; text = text.replace(sign, w) for each sign of a written text -/
namespace N1
open PySem PySem.Spec PyProof.Rows L2 TL
/-- a text n times -/
def repS (x : Str) (n : Nat) : Str := ⟨((List.replicate n (tl x)).flatten).toArray⟩
theorem tl_repS (x : Str) (n : Nat) : tl (repS x n) = (List.replicate n (tl x)).flatten := rfl
theorem len_flat (l : List Nat) : ∀ n : Nat, ((List.replicate n l).flatten).length = n * l.length
  | 0 => by simp
  | n + 1 => by
    rw [List.replicate_succ, List.flatten_cons, List.length_append, len_flat l n, Nat.succ_mul, Nat.add_comm]
theorem fold_app (x : Array Nat) : ∀ (n : Nat) (acc : Array Nat), ((List.replicate n x).foldl (· ++ ·) acc).toList = acc.toList ++ (List.replicate n x.toList).flatten
  | 0, acc => by simp
  | n + 1, acc => by
    rw [List.replicate_succ, List.foldl_cons, fold_app x n, List.replicate_succ, List.flatten_cons, Array.toList_append, List.append_assoc]
def rRepStr : R2 := fun x y H Q => ∃ (z : Str) (n : Nat), x = .str z ∧ y = .int (n : Int) ∧ z.length ≤ 1000 ∧ n ≤ 1000 ∧ Q (.str (repS z n)) H
theorem op_repStr {X : Cx} : OpR X (binaryOp .Mult) rRepStr := by
  intro pins s σ H x y v u Q I rx ry h
  obtain ⟨z, n, rfl, rfl, hz, hn, q⟩ := h
  obtain ⟨t, rfl⟩ := rx
  obtain ⟨t', rfl⟩ := ry
  have hlen : z.length * n ≤ 1000000 := Nat.mul_le_mul hz hn
  refine P.mul_str ?_ (fun h1 _ => ?_) (fun _ _ => ?_) ?_
  · rw [decide_eq_false (by omega), decide_eq_false (by omega)]
    rfl
  · have h2 : (1000 : Int) ≤ (2 ^ 63 - 1) / (n : Int) := by
      rw [Int.le_ediv_iff_mul_le (by omega)]
      have : (1000 : Int) * (n : Int) ≤ 1000 * 1000 := by omega
      omega
    omega
  · unfold Builtin.Str.tooLong sizeLine
    exact decide_eq_false (by simp; omega)
  · by_cases h1 : (n : Int) < 1
    · rw [if_pos h1]
      have e : n = 0 := by omega
      subst e
      have : repS z 0 = Str.empty := rfl
      rw [this] at q
      exact ⟨by decide, ⟨.str _, H, I.tok _, ⟨_, rfl⟩, q⟩⟩
    · rw [if_neg h1]
      by_cases h2 : ((n : Int) == 1 || z.length == 0) = true
      · rw [if_pos h2]
        have e : repS z n = z := by
          apply ext_tl
          rw [tl_repS]
          simp only [Bool.or_eq_true, beq_iff_eq] at h2
          rcases h2 with h2 | h2
          · have e : n = 1 := by omega
            subst e
            simp
          · have e : tl z = [] := by
              have := len_tl z
              exact List.length_eq_zero_iff.mp (by omega)
            rw [e]
            simp
        rw [e] at q
        exact ⟨.str _, H, I, ⟨t, rfl⟩, q⟩
      · rw [if_neg h2]
        have e : (⟨(List.replicate (n : Int).toNat z.cps).foldl (· ++ ·) #[]⟩ : Str) = repS z n := by
          apply ext_tl
          rw [tl_repS]
          show ((List.replicate (n : Int).toNat z.cps).foldl (· ++ ·) #[]).toList = _
          rw [fold_app]
          simp [tl]
        rw [e]
        refine ⟨?_, ⟨.str _, H, I.tok _, ⟨_, rfl⟩, q⟩⟩
        show (repS z n).length ≤ sizeLine
        rw [len_tl, tl_repS, len_flat, ← len_tl]
        have : n * z.length ≤ 1000000 := by rw [Nat.mul_comm]; exact hlen
        exact Nat.le_trans this (by decide)

/-! ### a local name stored, its very value known -/
section
variable {X : Cx} {pins : List (Addr × Obj)} {σ : L2.St} {H : Hp} {s : Shared}
theorem store_raw {M : Model} {A : Around} {E : Value → Shared → Prop} {i : Nat} {x : Str} {v : V} {u : Value} {Q : Unit → Shared → Prop} (I : Inv X pins σ H s) (hN : X.N.Nodup) (hi : X.N[i]? = some x)
    (hk : X.env.scope.names.lookup x = some .local) (r : L2.RelV v u)
    (h : ∀ h' : Heap, Inv X pins (σ.set i (some v)) H { s with heap := h', toks := s.toks + 1 } → (∃ m : Str → Option Value, h'.Ns X.env.locals m ∧ m x = some u) → Q () { s with heap := h', toks := s.toks + 1 }) :
    wpAny M A (storeName X.env x u) Q E s := by
  have nots : (X.env.scope.kind == .class || (X.env.scope.kind == .module && X.env.locals != X.env.globals)) = false := by rw [I.ok.kind]; rfl
  obtain ⟨mm, hns, hlk⟩ := id I.loc
  have below : i < σ.length := by rw [I.len]; exact (List.getElem?_eq_some_iff.mp hi).1
  refine wpAny_storeName_local hk hns (fun g gn sb => ?_) nots
  have young : ∀ b o, X.s_0.heap.get? b = some o → b ≠ X.env.locals := fun b o e => Nat.ne_of_lt (Nat.lt_of_lt_of_le (Heap.lt_size e) I.ok.above)
  have gone : ∀ b o, H b = some o → b ≠ X.env.locals := fun b o e z => by rw [z, I.free] at e; cases e
  have hok' : HOk X.prog X.w H g := fun b ob e => (I.hok b ob e).stay (fun c w' hc q => (sb.2 c (by
      rcases hc with rfl | hc
      · exact gone _ _ e
      · exact gone _ _ hc)).trans q) (fun _ q => q) fun _ _ q => q
  have un : Un X.fs X.ex X.H_0 H X.s_0.heap g := by
    refine ⟨fun b o e n hb hx => (sb.2 b (young b o e)).trans (I.base.keep b o e n hb hx), fun b o e n hb hx => ?_, I.base.free, fun b o e hx => ?_, I.base.tups, I.base.frzs, I.base.tbls⟩
    · obtain ⟨sl, q⟩ := I.base.slot b o e n hb hx
      exact ⟨sl, (sb.2 b (young b o e)).trans q⟩
    · obtain ⟨o', q⟩ := I.base.there b o e hx
      exact ⟨o', (sb.2 b (young b o e)).trans q⟩
  refine h g ⟨I.ok, I.os, I.bare, un, ⟨_, gn, fun j y v' e1 e2 e3 => ?_⟩, fun y c e => ?_, I.free, I.freeC, fun p hp => ?_, hok', by rw [List.length_set]; exact I.len⟩ ⟨_, gn, by simp⟩
  · by_cases hj : j = i
    · subst hj
      have ex : y = x := Option.some.inj (e1.symm.trans hi)
      subst ex
      rw [List.getElem?_set_self below] at e2
      have ev : v = v' := Option.some.inj (Option.some.inj e2)
      subst ev
      exact ⟨u, r, .inl ⟨hk, by simp⟩⟩
    · rw [List.getElem?_set_ne (Ne.symm hj)] at e2
      obtain ⟨u', r', q⟩ := hlk j y v' e1 e2 e3
      have yx : y ≠ x := fun e => hj (nodup_ix hN e1 (e ▸ hi))
      rcases q with ⟨k, e⟩ | ⟨k, c, e, z⟩
      · exact ⟨u', r', .inl ⟨k, (if_neg yx).trans e⟩⟩
      · exact ⟨u', r', .inr ⟨k, c, e, z.sameBut sb (I.cne y c e)⟩⟩
  · obtain ⟨w', z⟩ := I.cell y c e
    exact ⟨w', z.sameBut sb (I.cne y c e)⟩
  · obtain ⟨e, n, ne, nf, d⟩ := I.pin p hp
    exact ⟨(sb.2 p.1 ne).trans e, n, ne, nf, d⟩
/-- a local name read, its very value known -/
theorem read_raw {x : Str} {u : Value} {pos : Pos} {m : Str → Option Value} {Q E : Value → Shared → Prop} (I : Inv X pins σ H s) (hk : X.env.scope.names.lookup x = some .local) (hn : s.heap.Ns X.env.locals m) (hm : m x = some u) (q : Q u s)
    (hd : (x == ("__debug__" : Str)) = false := by decide) : wpAny (model X.prog X.w) X.A (eval (.Name x pos) X.env) Q E s :=
  wpAny_Name (wpAny_loadName_local I.ok.kind hk hn hm q) hd
end

/-! ### for x in z: y = y.replace(x, w) -/
def repAll (w : Str) (l : List Nat) (t : Str) : Str := l.foldl (fun t c => Txt.replace t ⟨#[c]⟩ w) t
def tForRep (ix iy : Nat) (z w : Str) : TS := fun D σ H => ∃ t, σ[iy]? = some (some (.str t)) ∧ (∀ c ∈ tl z, ((⟨#[c]⟩ : Str) == w) = false) ∧
  (∀ n : Nat, (repAll w ((tl z).take n) t).length + ((repAll w ((tl z).take n) t).length + 1) * w.length ≤ 16777216) ∧
  ∀ σ', (∀ j, j ≠ ix → j ≠ iy → σ'[j]? = σ[j]?) → σ'.length = σ.length → σ'[iy]? = some (some (.str (repAll w (tl z) t))) → D.nx σ' H
section
variable {X : Cx}
theorem ps_forRep {ix iy : Nat} {x y z w : Str} {px cp py p1 apos p2 c1 pos pos2 fpos : Pos} {j k : Nat} (hp : PassesOwn (model X.prog X.w) X.A X.env X.xe) (hc : X.calm = true) (hN : X.N.Nodup) (hx : X.N[ix]? = some x) (hy : X.N[iy]? = some y)
    (hkx : X.env.scope.names.lookup x = some .local) (hky : X.env.scope.names.lookup y = some .local) (hxy : ix ≠ iy) (hasc : z.cps.all (· < 128) = true)
    (hst : starEach [.Name x p2, .Constant (.str w) k c1] X.env = [(false, eval (.Name x p2) X.env), (false, eval (.Constant (.str w) k c1) X.env)])
    (hbase : attributeBase (.Name y p1) "replace" X.env (eval (.Name y p1) X.env) = eval (.Name y p1) X.env) (hline : (apos.endLine == pos.line) = true)
    (hsw : swapsWith (.Call (.Attribute (.Name y p1) "replace" apos) [.Name x p2, .Constant (.str w) k c1] [] pos) (some (.Name y py)) pos2.line X.env = pure false)
    (hdx : (x == ("__debug__" : Str)) = false) (hdy : (y == ("__debug__" : Str)) = false) (hcy : (y == ("__classdict__" : Str)) = false) :
    PS X (.For (.Name x px) (.Constant (.str z) j cp) [.Assign [.Name y py] (.Call (.Attribute (.Name y p1) "replace" apos) [.Name x p2, .Constant (.str w) k c1] [] pos) pos2] [] fpos) (tForRep ix iy z w) := by
  refine ⟨fun pins s σ H D I h => ?_⟩
  obtain ⟨t0, h0, hne, hlen, hD⟩ := h
  refine wpAny_For (Calls.Constant_str ?_) (fun _ => rfl)
  refine wpAny_pyIter_ascii hasc ?_
  have I1 := I.kept (h' := s.heap.push { cls := .type "str_ascii_iterator", data := .fields #[.str z s.toks, .int 0 0] }) (t' := s.toks + 1) fun b o e => Heap.get?_push_of_some _ e
  have fp0 := I.fpOk (H' := H) (Nat.le_refl s.heap.objs.size) (I.hok.fresh (Nat.le_refl _))
  have st0 : (s.heap.push { cls := .type "str_ascii_iterator", data := .fields #[.str z s.toks, .int 0 0] }).IsStrIter s.heap.objs.size "str_ascii_iterator" z s.toks 0 := ⟨_, Heap.get?_push_size _ rfl, rfl, rfl⟩
  generalize hit : s.heap.objs.size = it at *
  generalize hh1 : s.heap.push { cls := .type "str_ascii_iterator", data := .fields #[.str z s.toks, .int 0 0] } = h1 at *
  let Z : Nat → Shared → Prop := fun n s' => ∃ i σ', n = (tl z).length - i ∧ i ≤ (tl z).length ∧ Inv X pins σ' H s' ∧ s'.heap.IsStrIter it "str_ascii_iterator" z s.toks i ∧ 1 ≤ s'.toks ∧
    (∀ j, j ≠ ix → j ≠ iy → σ'[j]? = σ[j]?) ∧ σ'.length = σ.length ∧ σ'[iy]? = some (some (.str (repAll w ((tl z).take i) t0)))
  refine codeAny_forLoop_any Z ?_ (tl z).length ⟨0, σ, by simp, Nat.zero_le _, I1, st0, Nat.succ_le_succ (Nat.zero_le _), fun _ _ _ => rfl, rfl, by simpa [repAll] using h0⟩
  rintro n s3 ⟨i, σ3, rfl, hi, I3, st3, tk3, same3, len3, val3⟩
  by_cases hlt : i < (tl z).length
  · have hcx : z.cps[i]? = some (tl z)[i] := by
      rw [← Array.getElem?_toList]
      exact List.getElem?_eq_getElem hlt
    generalize hcc : (tl z)[i] = c at hcx
    refine wpAny_passesOwn hp (wpAny_pyNext_ascii_item st3 hcx fun g st4 sb => ?_)
    have I4 : Inv X pins σ3 H { s3 with heap := g, toks := s3.toks + 1 } := I3.turned (fun b o hb e => (sb.2 b hb).trans e) fp0.1 fp0.2.1 fp0.2.2.2.1 fp0.2.2.2.2.1 fp0.2.2.2.2.2
    obtain ⟨oi, e, cc, dd⟩ := id st4
    refine wpAny_passesOwn hp (go_of (s := { s3 with heap := g, toks := s3.toks + 1 }) e cc dd (by decide) ?_)
    have I4p := I4.pinned (fp := [it]) (fun b hb => by
      have eb : b = it := by simpa using hb
      rw [eb]; exact fp0) (fun b hb => by
      have eb : b = it := by simpa using hb
      rw [eb]
      exact ⟨oi, e, fun v z => by rw [dd] at z; cases z⟩)
    refine wpAny_passesOwn hp (wpAny_assign_Name (store_raw (v := .str ⟨#[c]⟩) I4p hN hx hkx ⟨_, rfl⟩ fun g2 I5 ⟨m5, ns5, mx5⟩ => ?_))
    have vy : (σ3.set ix (some (V.str ⟨#[c]⟩)))[iy]? = some (some (.str (repAll w ((tl z).take i) t0))) := by
      rw [List.getElem?_set_ne hxy]
      exact val3
    refine wpAny_passesOwn hp (wpAny_mono (PySem.wpAny_toks_of (n := 1) (Q := fun f s6 => f = Flow.next ∧ Inv X (pins ++ pinsAt [it] g) ((σ3.set ix (some (V.str ⟨#[c]⟩))).set iy (some (V.str (Txt.replace (repAll w ((tl z).take i) t0) ⟨#[c]⟩ w)))) H s6) (E := X.xe) (by show 1 ≤ s3.toks + 1 + 1; omega) ?_) ?_ fun _ _ q => q.2)
    · refine wpAny_execs_cons (wpAny_Assign_Name ?_ hsw)
      refine PySem.Call_method2 hbase hst hline (L2.raw_name hy (.inl hky) I5 vy (fun v r => ?_) hdy hcy)
      obtain ⟨ty, rfl⟩ := r
      refine ⟨"str", _, PySem.F.plainAttrs_str, PySem.F.slot_str_replace, PySem.F.type_str_replace, typeIs_str _ _ _, (fun _ e => nomatch e), Calls.callWith_builtin rfl (Calls.evalArgs_plain (Calls.spliced_cons ?_))⟩
      refine read_raw I5 hkx ns5 mx5 (Calls.spliced_cons (Calls.Constant_str (Calls.spliced_nil ?_))) hdx
      refine PySem.SC.replace (by show s3.toks ≠ 0; omega) (by show s3.toks + 1 + 1 ≠ 0; omega) (by show s3.toks ≠ s3.toks + 1 + 1; omega) (hne c (by rw [← hcc]; exact List.getElem_mem _)) (hlen i) fun t' k' => ?_
      exact store_ok (v := V.str (Txt.replace (repAll w ((tl z).take i) t0) ⟨#[c]⟩ w)) (I5.tok k') hN hy (.inl hky) ⟨t', rfl⟩ (fun s6 I6 => wpAny_execs_nil ⟨rfl, I6⟩) (.inr hky)
    rintro f s6 ⟨tk6, rfl, I6⟩
    have pin6 := I6.pin (it, oi) (List.mem_append_right _ (List.mem_append_right _ (mem_pinsAt (by simp) e)))
    refine ⟨(tl z).length - (i + 1), by omega, i + 1, _, rfl, hlt, I6.unpinned, ⟨oi, pin6.1, cc, dd⟩, ?_, fun q q1 q2 => ?_, ?_, ?_⟩
    · exact tk6
    · rw [List.getElem?_set_ne (Ne.symm q2), List.getElem?_set_ne (Ne.symm q1)]
      exact same3 q q1 q2
    · rw [List.length_set, List.length_set]
      exact len3
    · have hiy : iy < σ3.length := (List.getElem?_eq_some_iff.mp val3).1
      rw [List.getElem?_set_self (by rw [List.length_set]; exact hiy)]
      have et : (tl z).take (i + 1) = (tl z).take i ++ [c] := by
        rw [List.take_succ, List.getElem?_eq_getElem hlt, hcc]
        rfl
      rw [et]
      unfold repAll
      rw [List.foldl_append]
      rfl
  · have ei : i = (tl z).length := by omega
    subst ei
    have hz : z.cps[(tl z).length]? = none := by
      rw [← Array.getElem?_toList]
      exact List.getElem?_eq_none (Nat.le_refl _)
    refine wpAny_passesOwn hp (wpAny_pyNext_ascii_end (I3.ok.hd hc) st3 hz fun g eb => ?_)
    refine wpAny_execs_nil ⟨σ3, H, I3.turned (t' := s3.toks) (fun b o hb e => eb b o hb e) fp0.1 fp0.2.1 fp0.2.2.2.1 fp0.2.2.2.2.1 fp0.2.2.2.2.2, hD σ3 same3 len3 ?_⟩
    rw [List.take_length] at val3
    exact val3
end
end N1
set_option Elab.async false
set_option linter.all false
set_option maxRecDepth 100000
/-! KD: comprehensions over data -/
namespace N1
open PySem PySem.Spec PyProof.Rows L2 TL
theorem small5 {n : Nat} (h : n ≤ 100000) : n ≤ sizeLine := Nat.le_trans h (by decide)
theorem small5' {n : Nat} (h : n < 100000) : n < sizeLine := Nat.lt_of_lt_of_le h (by decide)
section
variable {J : It} {n : Nat} {G : Hp → Prop} {Y : Nat → Hp → V → Hp → Prop} {g : TG} {tt : TT} {te : TE} {vs : List Nat} {σ : L2.St} {H1 : Hp} {D : Addr} {Qd : Hp → Prop}
theorem lc_good (w : Walk J n G Y) (P0 : Hp → Prop) (Good : Nat → List PyData → Prop) (h0 : P0 (upd H1 D (.lst []))) (g0 : Good 0 []) (hG : ∀ H, P0 H → G H)
    (hput : ∀ H ys zs, P0 H → H D = some (.lst ys) → P0 (upd H D (.lst zs))) (hz : n ≤ 100000)
    (hs : ∀ i x H H' ys ds, i < n → P0 H → H D = some (.lst ys) → Ims H ys ds → Good i ds → Y i H x H' → ∀ (K : VK) (K2 : Hp → Prop),
      (∀ y H4 d, P0 H4 → TK H H4 → H4 D = some (.lst ys) → Im H4 y d → Good (i + 1) (ds ++ [d]) → K y H4) → (∀ H3, P0 H3 → TK H H3 → H3 D = some (.lst ys) → Good (i + 1) ds → K2 H3) →
      g x (wipe σ vs) H' fun σ2 H2 => wipe σ2 vs = wipe σ vs ∧ tt σ2 H2 fun b H3 => if b = true then te σ2 H3 K else K2 H3)
    (hd : ∀ H ys ds, P0 H → H D = some (.lst ys) → Ims H ys ds → Good n ds → Qd H) :
    ∃ W : Nat → Nat → Hp → Prop, (∃ m, W 0 m (upd H1 D (.lst []))) ∧ ∀ i m H, W i m H →
      (J.stop i H ∧ Qd H) ∨ (J.go i H ∧ ∃ Nx : Hp → Prop, (∀ H', Nx H' → ∃ m', m' < m ∧ W (i + 1) m' H') ∧ ∀ x H', J.yld i H x H' → g x (wipe σ vs) H' fun σ2 H2 => wipe σ2 vs = wipe σ vs ∧ tt σ2 H2 fun b H3 =>
        if b = true then te σ2 H3 fun y H4 => ∃ acc, H4 D = some (.lst acc) ∧ acc.length < sizeLine ∧ Nx (upd H4 D (.lst (acc ++ [y]))) else Nx H3) := by
  refine lc_it w (fun i H => P0 H ∧ ∃ ys ds, ds.length ≤ i ∧ H D = some (.lst ys) ∧ Ims H ys ds ∧ Good i ds) ⟨h0, [], [], Nat.le_refl _, upd_same, .nil, g0⟩ (fun i H _ p => hG H p.1) ?_ ?_
  · rintro i x H H' hi ⟨p, ys, ds, hl, hD, hi2, hg⟩ y
    refine hs i x H H' ys ds hi p hD hi2 hg y _ _ (fun v H4 d p4 t4 d4 i4 g4 => ?_) (fun H3 p3 t3 d3 g3 => ?_)
    · have hll := hi2.length
      have tk : TK H4 (upd H4 D (.lst (ys ++ [v]))) := (TK.refl H4).lst d4
      exact ⟨ys, d4, small5' (by omega), hput _ _ _ p4 d4, ys ++ [v], ds ++ [d], by rw [List.length_append]; exact Nat.succ_le_succ hl, upd_same, ((hi2.mono t4).mono tk).snoc (i4.mono tk), g4⟩
    · exact ⟨p3, ys, ds, Nat.le_succ_of_le hl, d3, hi2.mono t3, g3⟩
  · rintro H ⟨p, ys, ds, hl, hD, hi2, hg⟩
    exact hd H ys ds p hD hi2 hg
/-- nothing but the new list changes -/
theorem lc_same (w : Walk J n G Y) (hD : H1 D = none) (Good : Nat → List PyData → Prop) (g0 : Good 0 []) (hG : ∀ H, Same H1 H → G H) (hY : ∀ i H x H', Y i H x H' → Same H H') (hz : n ≤ 100000)
    (hs : ∀ i x H H' ds, i < n → Same H1 H → Same H1 H' → Good i ds → Y i H x H' → ∀ (K : VK) (K2 : Hp → Prop),
      (∀ y H4 d, Same H' H4 → Im H4 y d → Good (i + 1) (ds ++ [d]) → K y H4) → (∀ H3, Same H' H3 → Good (i + 1) ds → K2 H3) →
      g x (wipe σ vs) H' fun σ2 H2 => wipe σ2 vs = wipe σ vs ∧ tt σ2 H2 fun b H3 => if b = true then te σ2 H3 K else K2 H3)
    (hd : ∀ H ys ds, Same H1 H → H D = some (.lst ys) → Ims H ys ds → Good n ds → Qd H) :
    ∃ W : Nat → Nat → Hp → Prop, (∃ m, W 0 m (upd H1 D (.lst []))) ∧ ∀ i m H, W i m H →
      (J.stop i H ∧ Qd H) ∨ (J.go i H ∧ ∃ Nx : Hp → Prop, (∀ H', Nx H' → ∃ m', m' < m ∧ W (i + 1) m' H') ∧ ∀ x H', J.yld i H x H' → g x (wipe σ vs) H' fun σ2 H2 => wipe σ2 vs = wipe σ vs ∧ tt σ2 H2 fun b H3 =>
        if b = true then te σ2 H3 fun y H4 => ∃ acc, H4 D = some (.lst acc) ∧ acc.length < sizeLine ∧ Nx (upd H4 D (.lst (acc ++ [y]))) else Nx H3) := by
  refine lc_good w (fun H => Same H1 H) Good (Same.new hD) g0 hG (fun H ys zs p _ => Same.put p hD) hz ?_ (fun H ys ds p => hd H ys ds p)
  intro i x H H' ys ds hi p hDl hi2 hg y K K2 k1 k2
  have s1 := hY i H x H' y
  exact hs i x H H' ds hi p (p.trans s1) hg y K K2 (fun v H4 d s4 i4 g4 => k1 v H4 d (p.trans (s1.trans s4)) (TK.same (s1.trans s4)) ((s1.trans s4) _ _ hDl) i4 g4)
    (fun H3 s3 g3 => k2 H3 (p.trans (s1.trans s3)) (TK.same (s1.trans s3)) ((s1.trans s3) _ _ hDl) g3)
/-- without a test -/
theorem lc_good1 (w : Walk J n G Y) (P0 : Hp → Prop) (Good : Nat → List PyData → Prop) (h0 : P0 (upd H1 D (.lst []))) (g0 : Good 0 []) (hG : ∀ H, P0 H → G H)
    (hput : ∀ H ys zs, P0 H → H D = some (.lst ys) → P0 (upd H D (.lst zs))) (hz : n ≤ 100000)
    (hs : ∀ i x H H' ys ds, i < n → P0 H → H D = some (.lst ys) → Ims H ys ds → Good i ds → Y i H x H' → ∀ (K : VK),
      (∀ y H4 d, P0 H4 → TK H H4 → H4 D = some (.lst ys) → Im H4 y d → Good (i + 1) (ds ++ [d]) → K y H4) →
      g x (wipe σ vs) H' fun σ2 H2 => wipe σ2 vs = wipe σ vs ∧ te σ2 H2 K)
    (hd : ∀ H ys ds, P0 H → H D = some (.lst ys) → Ims H ys ds → Good n ds → Qd H) :
    ∃ W : Nat → Nat → Hp → Prop, (∃ m, W 0 m (upd H1 D (.lst []))) ∧ ∀ i m H, W i m H →
      (J.stop i H ∧ Qd H) ∨ (J.go i H ∧ ∃ Nx : Hp → Prop, (∀ H', Nx H' → ∃ m', m' < m ∧ W (i + 1) m' H') ∧ ∀ x H', J.yld i H x H' → g x (wipe σ vs) H' fun σ2 H2 => wipe σ2 vs = wipe σ vs ∧ tYes σ2 H2 fun b H3 =>
        if b = true then te σ2 H3 fun y H4 => ∃ acc, H4 D = some (.lst acc) ∧ acc.length < sizeLine ∧ Nx (upd H4 D (.lst (acc ++ [y]))) else Nx H3) :=
  lc_good (tt := tYes) w P0 Good h0 g0 hG hput hz (fun i x H H' ys ds hi p a b c y K K2 k1 _ => hs i x H H' ys ds hi p a b c y K k1) hd
theorem lc_same1 (w : Walk J n G Y) (hD : H1 D = none) (Good : Nat → List PyData → Prop) (g0 : Good 0 []) (hG : ∀ H, Same H1 H → G H) (hY : ∀ i H x H', Y i H x H' → Same H H') (hz : n ≤ 100000)
    (hs : ∀ i x H H' ds, i < n → Same H1 H → Same H1 H' → Good i ds → Y i H x H' → ∀ (K : VK),
      (∀ y H4 d, Same H' H4 → Im H4 y d → Good (i + 1) (ds ++ [d]) → K y H4) → g x (wipe σ vs) H' fun σ2 H2 => wipe σ2 vs = wipe σ vs ∧ te σ2 H2 K)
    (hd : ∀ H ys ds, Same H1 H → H D = some (.lst ys) → Ims H ys ds → Good n ds → Qd H) :
    ∃ W : Nat → Nat → Hp → Prop, (∃ m, W 0 m (upd H1 D (.lst []))) ∧ ∀ i m H, W i m H →
      (J.stop i H ∧ Qd H) ∨ (J.go i H ∧ ∃ Nx : Hp → Prop, (∀ H', Nx H' → ∃ m', m' < m ∧ W (i + 1) m' H') ∧ ∀ x H', J.yld i H x H' → g x (wipe σ vs) H' fun σ2 H2 => wipe σ2 vs = wipe σ vs ∧ tYes σ2 H2 fun b H3 =>
        if b = true then te σ2 H3 fun y H4 => ∃ acc, H4 D = some (.lst acc) ∧ acc.length < sizeLine ∧ Nx (upd H4 D (.lst (acc ++ [y]))) else Nx H3) :=
  lc_same (tt := tYes) w hD Good g0 hG hY hz (fun i x H H' ds hi p a b y K K2 k1 _ => hs i x H H' ds hi p a b y K k1) hd
end
/-- what a walk gives, the heap as it was -/
theorem yat_same {xs : List V} : ∀ i H x H', YAt xs i H x H' → Same H H' := fun i H x H' y => by rw [y.1]; exact Same.refl H
theorem yfn_same {f : Nat → V} : ∀ i H x H', YFn f i H x H' → Same H H' := fun i H x H' y => by rw [y.1]; exact Same.refl H
theorem ystr_same {z : Str} : ∀ (i : Nat) (H : Hp) (x : V) (H' : Hp), (H' = H ∧ ∃ c : Nat, z.cps[i]? = some c ∧ x = V.str ⟨#[c]⟩) → Same H H' := fun i H x H' y => by rw [y.1]; exact Same.refl H
/-- one sign -/
abbrev sg (c : Nat) : Str := ⟨#[c]⟩
end N1
namespace N1
open PySem PySem.Spec PyProof.Rows L2 TL
/-- a new tuple at q, put behind the list at p -/
theorem Ls.push {H : Hp} {p q : Addr} {xs vs : List V} {ds es : List PyData} (hx : H p = some (.lst xs)) (hI : Ims H xs ds) (hq : H q = none) (hv : Ims H vs es) :
    Ls (upd (upd H q (.tup vs)) p (.lst (xs ++ [.ref q]))) p (ds ++ [.tuple es]) := by
  have t1 : TK H (upd H q (.tup vs)) := (TK.refl H).new hq
  have hp : upd H q (.tup vs) p = some (.lst xs) := by rw [upd_ne (ne_of_none hx hq)]; exact hx
  have t2 : TK H (upd (upd H q (.tup vs)) p (.lst (xs ++ [.ref q]))) := t1.lst hp
  refine ⟨_, upd_same, (hI.mono t2).snoc (.tup ?_ (hv.mono t2))⟩
  rw [upd_ne (ne_of_none hx hq).symm]
  exact upd_same
theorem Ls.push1 {H : Hp} {p : Addr} {xs : List V} {ds : List PyData} {v : V} {d : PyData} (hx : H p = some (.lst xs)) (hI : Ims H xs ds) (hv : Im H v d) : Ls (upd H p (.lst (xs ++ [v]))) p (ds ++ [d]) := by
  have t2 : TK H (upd H p (.lst (xs ++ [v]))) := (TK.refl H).lst hx
  exact ⟨_, upd_same, (hI.mono t2).snoc (hv.mono t2)⟩
theorem Ls.len {H : Hp} {xs : List V} {ds : List PyData} (hI : Ims H xs ds) {n : Nat} (h : ds.length ≤ n) (hn : n < 100000) : xs.length < sizeLine := by
  have := hI.length
  exact small5' (by omega)
end N1
namespace N1
open PySem PySem.Spec PyProof.Rows L2 TL
/-! ### tests and values that leave the heap as it is -/
section
variable {t u : TT} {ta tb : TE} {σ : L2.St} {H : Hp} {b1 b2 : Bool}
theorem q_or {Q : Bool → Hp → Prop} (h1 : ∀ Q' : Bool → Hp → Prop, Q' b1 H → t σ H Q') (h2 : b1 = false → ∀ Q' : Bool → Hp → Prop, Q' b2 H → u σ H Q') (q : Q (b1 || b2) H) : tOr t u σ H Q := by
  refine h1 _ ?_
  cases b1 with
  | true => rw [if_pos rfl]; simpa using q
  | false => rw [if_neg Bool.false_ne_true]; exact h2 rfl _ (by simpa using q)
theorem q_and {Q : Bool → Hp → Prop} (h1 : ∀ Q' : Bool → Hp → Prop, Q' b1 H → t σ H Q') (h2 : b1 = true → ∀ Q' : Bool → Hp → Prop, Q' b2 H → u σ H Q') (q : Q (b1 && b2) H) : tAnd t u σ H Q := by
  refine h1 _ ?_
  cases b1 with
  | false => rw [if_neg Bool.false_ne_true]; simpa using q
  | true => rw [if_pos rfl]; exact h2 rfl _ (by simpa using q)
theorem q_not {Q : Bool → Hp → Prop} (h1 : ∀ Q' : Bool → Hp → Prop, Q' b1 H → t σ H Q') (q : Q (!b1) H) : tNot t σ H Q := h1 _ q
theorem q_andV {Q : VK} (h1 : ∀ Q' : VK, Q' (.bl b1) H → ta σ H Q') (h2 : b1 = true → ∀ Q' : VK, Q' (.bl b2) H → tb σ H Q') (q : Q (.bl (b1 && b2)) H) : tAndV ta tb σ H Q := by
  refine h1 _ ⟨b1, rfl, ?_⟩
  cases b1 with
  | false => rw [if_neg Bool.false_ne_true]; simpa using q
  | true => rw [if_pos rfl]; exact h2 rfl _ (by simpa using q)
theorem q_orV {Q : VK} (h1 : ∀ Q' : VK, Q' (.bl b1) H → ta σ H Q') (h2 : b1 = false → ∀ Q' : VK, Q' (.bl b2) H → tb σ H Q') (q : Q (.bl (b1 || b2)) H) : tOrV ta tb σ H Q := by
  refine h1 _ ⟨b1, rfl, ?_⟩
  cases b1 with
  | true => rw [if_pos rfl]; simpa using q
  | false => rw [if_neg Bool.false_ne_true]; exact h2 rfl _ (by simpa using q)
end
/-- a text's sign by its place -/
theorem at_cps {z : Str} {i c : Nat} : z.cps[i]? = some c ↔ (tl z)[i]? = some c := by
  show _ ↔ z.cps.toList[i]? = some c
  rw [Array.getElem?_toList]
end N1
namespace N1
open PySem PySem.Spec PyProof.Rows L2 TL
theorem at_any {α : Type} {xs : List α} {z : Int} {j : Nat} {v : α} (e : z = (j : Int)) (h : xs[j]? = some v) : atI xs z = some v := by
  rw [e]
  exact atI_nat h
theorem sg_inj {c d : Nat} (h : sg c = sg d) : c = d := by
  have := congrArg Str.cps h
  simpa using this
theorem sg_eq {c d : Nat} : (V.str (sg c) = V.str (sg d)) ↔ c = d := ⟨fun h => sg_inj (V.str.inj h), fun h => by rw [h]⟩
end N1
namespace N1
open PySem PySem.Spec PyProof.Rows L2 TL
/-- what holds between a statement and the rest is said once -/
def tMid (t u : TS) : TS := fun D σ H => ∃ Mid : L2.St → Hp → Prop, t { D with nx := Mid } σ H ∧ ∀ σ' H', Mid σ' H' → u D σ' H'
theorem pss_cut {X : Cx} {st : Stmt} {rest : List Stmt} {t u : TS} (h1 : PS X st t) (h2 : PSs X rest u) : PSs X (st :: rest) (tMid t u) := by
  constructor
  intro pins s σ H D I h
  obtain ⟨Mid, h, go⟩ := h
  refine wpAny_execs_cons (wpAny_mono (h1.run pins s σ H { D with nx := Mid } I h) (fun f s1 q => ?_) fun _ _ z => z)
  cases f
  case next =>
    obtain ⟨σ1, H1, I1, q1⟩ := q
    exact h2.run pins s1 σ1 H1 D I1 (go σ1 H1 q1)
  all_goals exact q
end N1
set_option Elab.async false
set_option linter.all false
set_option maxRecDepth 100000
namespace N1
open PySem PySem.Spec PyProof.Rows L2 TL
/-- a module's written text, whole number -/
theorem pe_gs {X : Cx} {x : Str} {z : Str} {pos : Pos} (hg : Gl X x) (h : ∃ t, X.mg x = some (.str z t)) (hd : (x == ("__debug__" : Str)) = false := by decide) : PE X (.Name x pos) (tC (.str z)) := by
  obtain ⟨t, h⟩ := h
  exact pe_glob hg h ⟨t, rfl⟩ hd
theorem pe_gi {X : Cx} {x : Str} {z : Int} {pos : Pos} (hg : Gl X x) (h : ∃ t, X.mg x = some (.int z t)) (hd : (x == ("__debug__" : Str)) = false := by decide) : PE X (.Name x pos) (tC (.int z)) := by
  obtain ⟨t, h⟩ := h
  exact pe_glob hg h ⟨t, rfl⟩ hd
abbrev topS (i : Nat) : Stmt := PySem.Challenge.pw_wellbegun_k29_word_machines.main.body.getD i (.Pass ⟨0, 0, 0, 0⟩)
abbrev LETTERS : Str := Str.ofString "abcdefghijklmnopqrstuvwxyz"
abbrev FIGURES : Str := Str.ofString "0123456789"
abbrev SIGNS : Str := Str.ofString "(),.0123456789abcdefghijklmnopqrstuvwxyz"
def sigs : List Nat := [40, 41, 44, 46, 48, 49, 50, 51, 52, 53, 54, 55, 56, 57, 97, 98, 99, 100, 101, 102, 103, 104, 105, 106, 107, 108, 109, 110, 111, 112, 113, 114, 115, 116, 117, 118, 119, 120, 121, 122]
theorem tl_SIGNS : tl SIGNS = sigs := by decide +kernel
theorem sz_SIGNS : SIGNS.cps.size = 40 := by decide +kernel
/-- what the terms ask of the module's names -/
structure Txt (mg : Str → Option Value) : Prop where
  g_LETTERS : ∃ t, mg "LETTERS" = some (.str LETTERS t)
  g_FIGURES : ∃ t, mg "FIGURES" = some (.str FIGURES t)
  g_SIGNS : ∃ t, mg "SIGNS" = some (.str SIGNS t)
  b_abs : mg "abs" = none
  b_bool : mg "bool" = none
  b_int : mg "int" = none
  b_isinstance : mg "isinstance" = none
  b_len : mg "len" = none
  b_max : mg "max" = none
  b_range : mg "range" = none
  b_sorted : mg "sorted" = none
  b_str : mg "str" = none
  b_tuple : mg "tuple" = none

/-! ### data -/
abbrev Mv := Int × Str × Int × Int
def mvD (m : Mv) : PyData := .tuple [.int m.1, .str m.2.1, .int m.2.2.1, .int m.2.2.2]
structure Mc where
  n : Int
  st : List Int
  en : List Int
  ms : List Mv
def mcD (m : Mc) : PyData := .tuple [.int m.n, .tuple (m.st.map .int), .tuple (m.en.map .int), .tuple (m.ms.map mvD)]
def signMoves (o t w : Int) : List Mv := sigs.map fun c => (o, sg c, t, w)

section
variable {P : Program} {w : World} {K : PySem.W.Frag} {mg : Str → Option Value} {base : Heap}

/-! ### sign_moves -/
abbrev s_sign_moves : Stmt := topS 4
theorem sc_sign_moves : FnScope ["origin", "to", "price", "sign"] ["origin", "to", "price"] (defScope s_sign_moves) := ⟨rfl, rfl, rfl, by decide +kernel, rfl, by decide +kernel, by decide +kernel⟩
def sp_sign_moves : Sp := fun vs H Q _ => ∃ o t w : Int, vs = [.int o, .int t, .int w] ∧ ∀ p H', Same H H' → H p = none → Ls H' p ((signMoves o t w).map mvD) → Q (.ref p) H'
theorem ok_sign_moves {f : Addr} {fd : FuncData} (F : Fun K "sign_moves" "sign_moves" s_sign_moves f fd) (T : Txt mg) : FnOk P w K mg base CX0 1 f fd ["origin", "to", "price"] sp_sign_moves := by
  refine F.ok sc_sign_moves (fun vs H Q E h => ?_) (fun cdv A outer s H vs Q E hr h => ?_)
  · obtain ⟨o, t, w, rfl, _⟩ := h
    rfl
  · obtain ⟨o, t, w, rfl, k⟩ := h
    refine ⟨_, (pss_one (ps_ret (pe_lc (own := [("sign", 3)]) (g := gName 3) (by rfl) sc_sign_moves.nd (pi_str (pe_gs rfl T.g_SIGNS)) (blkOk_by (own := [("sign", 3)]) (N := ["origin", "to", "price", "sign"]) (sc := defScope s_sign_moves) (by decide +kernel)) (fun _ _ _ _ _ => pg_name (i := 3) sc_sign_moves.nd rfl (Or.inl rfl)) (fun _ _ _ _ _ => pts_nil) (fun _ _ _ _ _ => (pe_tup (pa_cons (pv 0) (pa_cons (pv 3) (pa_cons (pv 1) (pa_cons (pv 2) pa_nil))))))))), ?_⟩
    refine ⟨SIGNS, rfl, fun D hD => lc_same1 walk_str hD (fun i ds => ds = ((signMoves o t w).take i).map mvD) rfl (fun _ _ => trivial) ystr_same (by rw [sz_SIGNS]; decide) ?_ ?_⟩
    · rintro i x H1 H2 ds hi s1 s2 rfl ⟨rfl, c, hc, rfl⟩ K k1
      refine ⟨rfl, _, rfl, _, rfl, _, rfl, _, rfl, small5 (by simp), fun p hp => k1 _ _ (mvD (o, sg c, t, w)) (Same.new hp) (.tup upd_same (.cons (.int _) (.cons (.str _) (.cons (.int _) (.cons (.int _) .nil))))) ?_⟩
      have hc' : sigs[i]? = some c := by
        rw [← tl_SIGNS]
        show SIGNS.cps.toList[i]? = some c
        rw [Array.getElem?_toList]
        exact hc
      have : (signMoves o t w)[i]? = some (o, sg c, t, w) := by unfold signMoves; rw [List.getElem?_map, hc']; rfl
      rw [List.take_succ, this, List.map_append]
      rfl
    · rintro H1 ys ds s1 hD1 hi rfl
      rw [sz_SIGNS, List.take_of_length_le (by unfold signMoves; rw [List.length_map]; decide)] at hi
      exact k D H1 s1 hD ⟨ys, hD1, hi⟩
end
end N1
set_option Elab.async false
set_option linter.all false
set_option maxRecDepth 100000
namespace N1
open PySem PySem.Spec PyProof.Rows L2 TL
/-! ### word_moves -/
def alnum (c : Nat) : Bool := decide (c ∈ tl LETTERS) || decide (c ∈ tl FIGURES)
def wmv (w : List Nat) (fo : Option Int) (h : Nat) (c : Nat) : Option Mv :=
  if alnum c = true then some ((h : Int), sg c, (if h < w.length ∧ w[h]? = some c then (h : Int) + 1 else (w.length : Int) + 1), 1)
  else if h ≠ w.length then some ((h : Int), sg c, 0, 1) else fo.map fun f => ((h : Int), sg c, f, 1)
def wmvs (w : List Nat) (fo : Option Int) (h : Nat) : List Mv := sigs.filterMap (wmv w fo h)
def wordMoves (w : List Nat) (fo : Option Int) : List Mv := (List.range (w.length + 2)).flatMap (wmvs w fo)
def foV : Option Int → V
  | none => .non
  | some f => .int f
theorem wmvs_le (w : List Nat) (fo : Option Int) (h : Nat) (j : Nat) : ((sigs.take j).filterMap (wmv w fo h)).length ≤ 40 := by
  refine Nat.le_trans (List.length_filterMap_le _ _) ?_
  rw [List.length_take]
  exact Nat.le_trans (Nat.min_le_right _ _) (by decide)
theorem wmvs_full (w : List Nat) (fo : Option Int) (h : Nat) : (wmvs w fo h).length ≤ 40 := by
  have := wmvs_le w fo h 40
  rwa [List.take_of_length_le (by decide)] at this
theorem wm_le (w : List Nat) (fo : Option Int) : ∀ i : Nat, ((List.range i).flatMap (wmvs w fo)).length ≤ i * 40
  | 0 => by simp
  | i + 1 => by
    rw [List.range_succ, List.flatMap_append, List.length_append]
    have h1 := wm_le w fo i
    have h2 : ([i].flatMap (wmvs w fo)).length ≤ 40 := by simpa using wmvs_full w fo i
    omega
section
variable {P : Program} {w : World} {K : PySem.W.Frag} {mg : Str → Option Value} {base : Heap}
abbrev s_word_moves : Stmt := topS 8
theorem sc_word_moves : FnScope ["word", "found", "many", "other", "made", "here", "sign", "goes"] ["word", "found"] (defScope s_word_moves) := ⟨rfl, rfl, rfl, by decide +kernel, rfl, by decide +kernel, by decide +kernel⟩
def sp_word_moves : Sp := fun vs H Q _ => ∃ (z : Str) (fo : Option Int), vs = [.str z, foV fo] ∧ z.length ≤ 1000 ∧ ∀ p H', Same H H' → H p = none → Ls H' p ((wordMoves (tl z) fo).map mvD) → Q (.ref p) H'
theorem ok_word_moves {f : Addr} {fd : FuncData} (F : Fun K "word_moves" "word_moves" s_word_moves f fd) (T : Txt mg) : FnOk P w K mg base CX0 1 f fd ["word", "found"] sp_word_moves := by
  refine F.ok sc_word_moves (fun vs H Q E h => ?_) (fun cdv A outer s H vs Q E hr h => ?_)
  · obtain ⟨z, fo, rfl, _⟩ := h
    rfl
  · obtain ⟨z, fo, rfl, hz, k⟩ := h
    have hu := hu_of hr
    refine ⟨_, (pss_cons (ps_set (i := 2) sc_word_moves.nd rfl (Or.inl rfl) (pe_callB call_len_str (by rfl) T.b_len (by decide +kernel) (pa_cons (pv 0) pa_nil)))
 (pss_cons (ps_set (i := 3) sc_word_moves.nd rfl (Or.inl rfl) (pe_op op_add (pv 2) pe_int))
 (pss_cons (ps_set (i := 4) sc_word_moves.nd rfl (Or.inl rfl) (pe_lst pa_nil))
 (pss_cons (ps_for PassesOwn.never rfl (pi_range1 (by rfl) T.b_range (pa_cons (pe_op op_add (pv 2) pe_int) pa_nil)) (pg_name (i := 5) sc_word_moves.nd rfl (Or.inl rfl))
 (pss_one (ps_for PassesOwn.never rfl (pi_str (pe_gs rfl T.g_SIGNS)) (pg_name (i := 6) sc_word_moves.nd rfl (Or.inl rfl))
 (pss_one (ps_if (PW.pt (pw_or (pt_cmpR op_in_sign (pv 6) (pe_gs rfl T.g_LETTERS) (by rfl)) (pw_or1 (pt_cmpR op_in_sign (pv 6) (pe_gs rfl T.g_FIGURES) (by rfl)))))
 (pss_cons (ps_set (i := 7) sc_word_moves.nd rfl (Or.inl rfl) (pe_and (pe_cmpR op_lt (pv 5) (pv 2) (nomark _)) (pe_one (pe_cmpR op_eq (pv 6) (pe_ix ix_str (pv 0) (pv 5) (fun _ _ => rfl)) (nomark _)))))
 (pss_one (ps_expr (pe_bm PySem.F.plainAttrs_list PySem.F.slot_list_append PySem.F.type_list_append mt_append (pv 4) (pa_cons (pe_tup (pa_cons (pv 5) (pa_cons (pv 6) (pa_cons (pe_ifExp (pt_val (pv 7)) (pe_op op_add (pv 5) pe_int) (pv 3)) (pa_cons pe_int pa_nil))))) pa_nil)))))
 (pss_one (ps_if (pt_cmpR op_ne (pv 5) (pv 2) (nomark _))
 (pss_one (ps_expr (pe_bm PySem.F.plainAttrs_list PySem.F.slot_list_append PySem.F.type_list_append mt_append (pv 4) (pa_cons (pe_tup (pa_cons (pv 5) (pa_cons (pv 6) (pa_cons pe_int (pa_cons pe_int pa_nil))))) pa_nil))))
 (pss_one (ps_if (pt_cmpR op_notN (pv 1) pe_non (nomark _))
 (pss_one (ps_expr (pe_bm PySem.F.plainAttrs_list PySem.F.slot_list_append PySem.F.type_list_append mt_append (pv 4) (pa_cons (pe_tup (pa_cons (pv 5) (pa_cons (pv 6) (pa_cons (pv 1) (pa_cons pe_int pa_nil))))) pa_nil))))
 pss_nil)))))))))
 (pss_one (ps_ret (pv 4))))))), ?_⟩
    have ez : z.length = (tl z).length := len_tl z
    refine ⟨_, rfl, z, rfl, small5 (by omega), ?_⟩
    refine ⟨_, rfl, _, _, rfl, rfl, ?_⟩
    refine ⟨Nat.zero_le _, fun p hp => ?_⟩
    refine ⟨_, rfl, _, _, rfl, rfl, _, rfl, (by omega), (by omega), ?_⟩
    have e2 : ((z.length : Int) + 2).toNat = (tl z).length + 2 := by omega
    refine for_it walk_range (fun i σ H1 => ∃ v5 v6 v7 : Option V, σ = [some (.str z), some (foV fo), some (.int z.length), some (.int (z.length + 1)), some (.ref p), v5, v6, v7] ∧ Same H H1 ∧ Ls H1 p (((List.range i).flatMap (wmvs (tl z) fo)).map mvD)) ?_ (fun _ _ _ _ _ => trivial) ?_ ?_
    · exact ⟨none, none, none, rfl, Same.new hp, [], upd_same, .nil⟩
    · rintro i x σ H1 H2 hi ⟨v5, v6, v7, rfl, s1, l1⟩ ⟨rfl, rfl⟩
      refine ⟨SIGNS, rfl, ?_⟩
      refine for_it walk_str (fun j σ H1 => ∃ v6 v7 : Option V, σ = [some (.str z), some (foV fo), some (.int z.length), some (.int (z.length + 1)), some (.ref p), some (.int (0 + (i : Int))), v6, v7] ∧ Same H H1 ∧ Ls H1 p (((List.range i).flatMap (wmvs (tl z) fo) ++ (sigs.take j).filterMap (wmv (tl z) fo i)).map mvD)) ?_ (fun _ _ _ _ _ => trivial) ?_ ?_
      · exact ⟨v6, v7, rfl, s1, by simpa using l1⟩
      · rintro j x σ H3 H4 hj ⟨v6, v7, rfl, s3, xs, hx, hI⟩ ⟨rfl, c, hc, rfl⟩
        have hc' : sigs[j]? = some c := by
          rw [← tl_SIGNS]
          show SIGNS.cps.toList[j]? = some c
          rw [Array.getElem?_toList]
          exact hc
        have hlen : (((List.range i).flatMap (wmvs (tl z) fo) ++ (sigs.take j).filterMap (wmv (tl z) fo i)).map mvD).length ≤ 60000 := by
          have h1 := wm_le (tl z) fo i
          have h2 := wmvs_le (tl z) fo i j
          rw [List.length_map, List.length_append]
          omega
        have hl := Ls.len hI hlen (by decide)
        have step : ∀ m, wmv (tl z) fo i c = some m → (((List.range i).flatMap (wmvs (tl z) fo) ++ (sigs.take j).filterMap (wmv (tl z) fo i)).map mvD) ++ [mvD m] = (((List.range i).flatMap (wmvs (tl z) fo) ++ (sigs.take (j + 1)).filterMap (wmv (tl z) fo i)).map mvD) := fun m hm => by
          rw [List.take_succ, hc', List.filterMap_append]
          simp [hm]
        have stay : wmv (tl z) fo i c = none → (((List.range i).flatMap (wmvs (tl z) fo) ++ (sigs.take j).filterMap (wmv (tl z) fo i)).map mvD) = (((List.range i).flatMap (wmvs (tl z) fo) ++ (sigs.take (j + 1)).filterMap (wmv (tl z) fo i)).map mvD) := fun hm => by
          rw [List.take_succ, hc', List.filterMap_append]
          simp [hm]
        have push : ∀ (q : Addr) (t : Int), H4 q = none → wmv (tl z) fo i c = some ((0 + (i : Int)), sg c, t, 1) → Same H (upd (upd H4 q (.tup [.int (0 + (i : Int)), .str (sg c), .int t, .int 1])) p (.lst (xs ++ [.ref q]))) ∧
            Ls (upd (upd H4 q (.tup [.int (0 + (i : Int)), .str (sg c), .int t, .int 1])) p (.lst (xs ++ [.ref q]))) p (((List.range i).flatMap (wmvs (tl z) fo) ++ (sigs.take (j + 1)).filterMap (wmv (tl z) fo i)).map mvD) := fun q t hq hm => by
          refine ⟨Same.put (s3.trans (Same.new hq)) hp, ?_⟩
          rw [← step _ hm]
          exact Ls.push hx hI hq (.cons (.int _) (.cons (.str _) (.cons (.int _) (.cons (.int _) .nil))))
        refine q_or (b1 := decide (c ∈ tl LETTERS)) (b2 := decide (c ∈ tl FIGURES)) (fun Q' q => ⟨_, rfl, _, _, rfl, rfl, _, rfl, q⟩) (fun _ Q' q => ⟨_, rfl, _, _, rfl, rfl, _, rfl, q⟩) ?_
        refine ite2 (fun ha => ?_) (fun ha => ?_)
        · have ha : alnum c = true := ha
          refine q_andV (b1 := decide ((0 + (i : Int)) < (z.length : Int))) (b2 := decide ((tl z)[i]? = some c)) (fun Q' q => ⟨_, rfl, _, rfl, _, _, rfl, rfl, q⟩) (fun hb Q' q => ?_) ?_
          · have hb : i < (tl z).length := by have := of_decide_eq_true hb; omega
            refine ⟨_, rfl, _, rfl, _, rfl, z, _, _, rfl, rfl, small5 (by omega), at_any (j := i) (v := (tl z)[i]) (by omega) (List.getElem?_eq_getElem hb), rfl, ?_⟩
            have e : decide (V.str ⟨#[c]⟩ = V.str ⟨#[(tl z)[i]]⟩) = decide ((tl z)[i]? = some c) := by
              rw [List.getElem?_eq_getElem hb]
              refine decide_eq_decide.mpr ⟨fun h => ?_, fun h => ?_⟩
              · rw [sg_eq.mp h]
              · rw [Option.some.inj h]
            rw [e]
            exact q
          · refine ⟨_, rfl, .inl ⟨rfl, _, SqL.of hx⟩, _, rfl, _, rfl, _, rfl, _, rfl, ?_⟩
            have fin : ∀ t : Int, t = (if i < (tl z).length ∧ (tl z)[i]? = some c then (i : Int) + 1 else ((tl z).length : Int) + 1) → wmv (tl z) fo i c = some ((0 + (i : Int)), sg c, t, 1) := fun t ht => by
              unfold wmv
              rw [if_pos ha, ht, Int.zero_add]
            refine ite2 (fun hg => ?_) (fun hg => ?_)
            · have hg : (decide ((0 + (i : Int)) < (z.length : Int)) && decide ((tl z)[i]? = some c)) = true := hg
              simp only [Bool.and_eq_true, decide_eq_true_eq] at hg
              refine ⟨_, rfl, _, _, rfl, rfl, small5 (by simp), fun q hq => ?_⟩
              have hm := fin (0 + (i : Int) + 1) (by rw [if_pos ⟨by omega, hg.2⟩]; omega)
              refine ⟨p, xs, _, rfl, rfl, by rw [upd_ne (ne_of_none hx hq)]; exact hx, hl, ?_⟩
              obtain ⟨h1, h2⟩ := push q _ hq hm
              exact ⟨_, _, rfl, h1, h2⟩
            · have hg : ¬ (decide ((0 + (i : Int)) < (z.length : Int)) && decide ((tl z)[i]? = some c)) = true := hg
              simp only [Bool.and_eq_true, decide_eq_true_eq] at hg
              refine ⟨_, rfl, small5 (by simp), fun q hq => ?_⟩
              have hm := fin ((z.length : Int) + 1) (by rw [if_neg (fun h => hg ⟨by omega, h.2⟩), ez])
              refine ⟨p, xs, _, rfl, rfl, by rw [upd_ne (ne_of_none hx hq)]; exact hx, hl, ?_⟩
              obtain ⟨h1, h2⟩ := push q _ hq hm
              exact ⟨_, _, rfl, h1, h2⟩
        · have ha : ¬ alnum c = true := ha
          refine ⟨_, rfl, _, rfl, rfl, _, rfl, ?_⟩
          refine ite2 (fun hn => ?_) (fun hn => ?_)
          · have hn : i ≠ (tl z).length := fun e => by rw [e, ← ez] at hn; simp at hn
            refine ⟨_, rfl, .inl ⟨rfl, _, SqL.of hx⟩, _, rfl, _, rfl, small5 (by simp), fun q hq => ?_⟩
            have hm : wmv (tl z) fo i c = some ((0 + (i : Int)), sg c, 0, 1) := by
              unfold wmv
              rw [if_neg ha, if_pos hn, Int.zero_add]
            refine ⟨p, xs, _, rfl, rfl, by rw [upd_ne (ne_of_none hx hq)]; exact hx, hl, ?_⟩
            obtain ⟨h1, h2⟩ := push q _ hq hm
            exact ⟨_, _, rfl, h1, h2⟩
          · have hn : i = (tl z).length := by
              have : decide (V.int (0 + (i : Int)) = V.int (z.length : Int)) = true := by simpa using hn
              have := V.int.inj (of_decide_eq_true this)
              omega
            refine ⟨_, rfl, rfl, _, rfl, ?_⟩
            cases fo with
            | none =>
              refine iteF ?_
              exact ⟨_, _, rfl, s3, by rw [← stay (by unfold wmv; rw [if_neg ha, if_neg (fun h => h hn)]; rfl)]; exact ⟨xs, hx, hI⟩⟩
            | some f =>
              refine iteT ?_
              refine ⟨_, rfl, .inl ⟨rfl, _, SqL.of hx⟩, _, rfl, _, rfl, _, rfl, small5 (by simp), fun q hq => ?_⟩
              have hm : wmv (tl z) (some f) i c = some ((0 + (i : Int)), sg c, f, 1) := by
                unfold wmv
                rw [if_neg ha, if_neg (fun h => h hn), Int.zero_add]
                rfl
              refine ⟨p, xs, _, rfl, rfl, by rw [upd_ne (ne_of_none hx hq)]; exact hx, hl, ?_⟩
              obtain ⟨h1, h2⟩ := push q _ hq hm
              exact ⟨_, _, rfl, h1, h2⟩
      · rintro σ H3 ⟨v6, v7, rfl, s3, l3⟩
        rw [sz_SIGNS, List.take_of_length_le (by decide)] at l3
        refine ⟨_, _, _, rfl, s3, ?_⟩
        rw [List.range_succ, List.flatMap_append]
        simpa [wmvs] using l3
    · rintro σ H3 ⟨v5, v6, v7, rfl, s3, l3⟩
      rw [e2] at l3
      exact ⟨_, rfl, k p H3 s3 hp l3⟩
end
end N1
set_option Elab.async false
set_option linter.all false
set_option maxRecDepth 100000
namespace N1
open PySem PySem.Spec PyProof.Rows L2 TL
theorem mv_alike (bs : List Mv) : PySem.W.AllAlike (bs.map mvD) := PySem.W.AllAlike.of fun b b' => by simp [mvD, PySem.W.alike, PySem.W.alikeAll]
theorem mv_sortable (bs : List Mv) : PySem.W.Sortable (bs.map mvD) := PySem.W.Sortable.tuples fun b => ⟨_, _, rfl⟩
theorem mv_depth (bs : List Mv) : ∀ b ∈ bs, (mvD b).depth ≤ 50 := fun b _ => by simp [mvD, PyData.depth, PyData.depthAll]
def srt (ms : List Mv) : List Mv := ms.mergeSort (PySem.W.dataLe false mvD)
def withWord (z : List Nat) : Mc := ⟨(z.length : Int) + 3, [0], [(z.length : Int), (z.length : Int) + 2], srt (wordMoves z (some ((z.length : Int) + 2)) ++ signMoves ((z.length : Int) + 2) ((z.length : Int) + 2) 1)⟩
def withoutEnds (n : Nat) : List Int := ((List.range (n + 2)).filter fun h => decide (h ≠ n)).map fun (h : Nat) => (h : Int)
def withoutWord (z : List Nat) : Mc := ⟨(z.length : Int) + 2, [0], withoutEnds z.length, srt (wordMoves z none)⟩
def uptoMoves (n : Nat) : List Mv := (List.range n).flatMap fun (h : Nat) => signMoves (h : Int) ((h : Int) + 1) 1
def uptoSigns (n : Nat) : Mc := ⟨(n : Int) + 1, [0], (List.range (n + 1)).map fun (h : Nat) => (h : Int), uptoMoves n⟩
theorem signMoves_len (a b c : Int) : (signMoves a b c).length = 40 := by unfold signMoves; rw [List.length_map]; rfl
theorem wordMoves_le (w : List Nat) (fo : Option Int) : (wordMoves w fo).length ≤ (w.length + 2) * 40 := wm_le w fo _
section
variable {P : Program} {w : World} {K : PySem.W.Frag} {mg : Str → Option Value} {base : Heap}
/-- the machine told by a function of the word -/
def spWord (m : List Nat → Mc) : Sp := fun vs H Q _ => ∃ z : Str, vs = [.str z] ∧ z.length ≤ 1000 ∧ ∀ v H', Same H H' → Im H' v (mcD (m (tl z))) → Q v H'
/-! ### with_word -/
abbrev s_with_word : Stmt := topS 6
theorem sc_with_word : FnScope ["word", "many", "found", "made"] ["word"] (defScope s_with_word) := ⟨rfl, rfl, rfl, by decide +kernel, rfl, by decide +kernel, by decide +kernel⟩
theorem ok_with_word {f : Addr} {fd : FuncData} (F : Fun K "with_word" "with_word" s_with_word f fd) (T : Txt mg) (D_word_moves : Df P w K mg base 1 "word_moves" ["word", "found"] sp_word_moves) (D_sign_moves : Df P w K mg base 1 "sign_moves" ["origin", "to", "price"] sp_sign_moves) :
    FnOk P w K mg base CX0 2 f fd ["word"] (spWord withWord) := by
  refine F.ok sc_with_word (fun vs H Q E h => ?_) (fun cdv A outer s H vs Q E hr h => ?_)
  · obtain ⟨z, rfl, _⟩ := h
    rfl
  · obtain ⟨z, rfl, hz, k⟩ := h
    have hu := hu_of hr
    have hu6 : (A.deeper (envOfC "with_word" (defScope s_with_word) s.heap.objs.size f cdv)).units + 60 < cLine := by have := hr.un; omega
    have ez : z.length = (tl z).length := len_tl z
    refine ⟨_, (pss_cons (ps_set (i := 1) sc_with_word.nd rfl (Or.inl rfl) (pe_callB call_len_str (by rfl) T.b_len (by decide +kernel) (pa_cons (pv 0) pa_nil)))
 (pss_cons (ps_set (i := 2) sc_with_word.nd rfl (Or.inl rfl) (pe_op op_add (pv 1) pe_int))
 (pss_cons (ps_set (i := 3) sc_with_word.nd rfl (Or.inl rfl) (pe_d D_word_moves hr rfl (pa_cons (pv 0) (pa_cons (pv 2) pa_nil))))
 (pss_cons (ps_expr (pe_bm PySem.F.plainAttrs_list PySem.F.slot_list_extend PySem.F.type_list_extend mt_extend (pv 3) (pa_cons (pe_d D_sign_moves hr rfl (pa_cons (pv 2) (pa_cons (pv 2) (pa_cons pe_int pa_nil)))) pa_nil)))
 (pss_one (ps_ret (pe_tup (pa_cons (pe_op op_add (pv 1) pe_int) (pa_cons (pe_tup (pa_cons pe_int pa_nil)) (pa_cons (pe_tup (pa_cons (pv 1) (pa_cons (pv 2) pa_nil))) (pa_cons (pe_callTy call_tuple_of (by rfl) T.b_tuple (by decide +kernel) (pa_cons (pe_callB (cr_sortD (enc := mvD) hu6) (by rfl) T.b_sorted (by decide +kernel) (pa_cons (pv 3) pa_nil)) pa_nil)) pa_nil))))))))))), ?_⟩
    refine ⟨_, rfl, z, rfl, small5 (by omega), _, rfl, _, _, rfl, rfl, ?_⟩
    refine ⟨_, rfl, _, rfl, z, some ((z.length : Int) + 2), rfl, hz, fun p H1 s1 hp ⟨xs, hx, hI⟩ => ?_⟩
    refine ⟨_, rfl, .inl ⟨rfl, _, SqL.of hx⟩, _, rfl, _, rfl, _, _, _, rfl, fun q H2 s2 hq ⟨ys, hy, hJ⟩ => ?_⟩
    have hx2 := s2 _ _ hx
    have lx := hI.length
    have ly := hJ.length
    rw [List.length_map] at lx ly
    have h1 := wordMoves_le (tl z) (some ((z.length : Int) + 2))
    rw [signMoves_len] at ly
    refine ⟨p, q, xs, ys, rfl, rfl, hx2, hy, small5 (by omega), ?_⟩
    have s3 : Same H (upd H2 p (.lst (xs ++ ys))) := Same.put (s1.trans s2) hp
    have t3 : TK H2 (upd H2 p (.lst (xs ++ ys))) := (TK.refl H2).lst hx2
    have hI3 := ((hI.mono (TK.same s2)).mono t3).append (hJ.mono t3)
    rw [← List.map_append] at hI3
    refine ⟨_, rfl, _, _, rfl, rfl, small5 (by simp), fun a1 n1 => ?_⟩
    refine ⟨_, rfl, _, rfl, small5 (by simp), fun a2 n2 => ?_⟩
    have k1 := Same.new (o := HO.tup [V.int 0]) n1
    have k2 := Same.new (o := HO.tup [V.int (z.length : Int), V.int ((z.length : Int) + 2)]) n2
    refine ⟨_, rfl, p, xs ++ ys, _, rfl, SqL.of (k2 _ _ (k1 _ _ upd_same)), (hI3.mono (TK.same k1)).mono (TK.same k2), mv_alike _, mv_sortable _, mv_depth _, fun a3 zs n3 hZ => ?_⟩
    refine ⟨a3, zs, rfl, .inl ⟨SqL.of upd_same, fun a4 n4 => ⟨small5 (by simp), fun a5 n5 => ?_⟩⟩⟩
    have k3 := Same.new (o := HO.lst zs) n3
    have k4 := Same.new (o := HO.tup zs) n4
    have k5 := Same.new (o := HO.tup [V.int ((z.length : Int) + 3), V.ref a1, V.ref a2, V.ref a4]) n5
    refine k _ _ (((((s3.trans k1).trans k2).trans k3).trans k4).trans k5) ?_
    unfold withWord
    rw [← ez]
    refine .tup upd_same (.cons ?_ (.cons (.tup (k5 _ _ (k4 _ _ (k3 _ _ (k2 _ _ upd_same)))) ?_) (.cons (.tup (k5 _ _ (k4 _ _ (k3 _ _ upd_same))) ?_) (.cons (.tup (k5 _ _ upd_same) ?_) .nil))))
    · exact .int _
    · exact .cons (.int 0) .nil
    · exact .cons (.int _) (.cons (.int _) .nil)
    · exact ((hZ.mono (TK.same k3)).mono (TK.same k4)).mono (TK.same k5)
end
end N1
set_option Elab.async false
set_option linter.all false
set_option maxRecDepth 100000
namespace N1
open PySem PySem.Spec PyProof.Rows L2 TL
theorem uptoMoves_le : ∀ n : Nat, (uptoMoves n).length = n * 40
  | 0 => rfl
  | n + 1 => by
    unfold uptoMoves
    rw [List.range_succ, List.flatMap_append, List.length_append]
    have := uptoMoves_le n
    unfold uptoMoves at this
    rw [this]
    simp [signMoves_len]
    omega
theorem uptoMoves_succ (n : Nat) : uptoMoves (n + 1) = uptoMoves n ++ signMoves (n : Int) ((n : Int) + 1) 1 := by
  unfold uptoMoves
  rw [List.range_succ, List.flatMap_append]
  simp
theorem rg_nat (n : Nat) : rgV 0 ((n : Int) + 1) = ((List.range (n + 1)).map fun (h : Nat) => (h : Int)).map V.int := by
  unfold rgV
  have : ((n : Int) + 1 - 0).toNat = n + 1 := by omega
  rw [this, List.map_map]
  refine List.map_congr_left fun i _ => ?_
  simp
section
variable {P : Program} {w : World} {K : PySem.W.Frag} {mg : Str → Option Value} {base : Heap}
/-! ### without_word -/
abbrev s_without_word : Stmt := topS 7
theorem sc_without_word : FnScope ["word", "many", "ends", "here"] ["word"] (defScope s_without_word) := ⟨rfl, rfl, rfl, by decide +kernel, rfl, by decide +kernel, by decide +kernel⟩
theorem ok_without_word {f : Addr} {fd : FuncData} (F : Fun K "without_word" "without_word" s_without_word f fd) (T : Txt mg) (D_word_moves : Df P w K mg base 1 "word_moves" ["word", "found"] sp_word_moves) :
    FnOk P w K mg base CX0 2 f fd ["word"] (spWord withoutWord) := by
  refine F.ok sc_without_word (fun vs H Q E h => ?_) (fun cdv A outer s H vs Q E hr h => ?_)
  · obtain ⟨z, rfl, _⟩ := h
    rfl
  · obtain ⟨z, rfl, hz, k⟩ := h
    have hu := hu_of hr
    have hu6 : (A.deeper (envOfC "without_word" (defScope s_without_word) s.heap.objs.size f cdv)).units + 60 < cLine := by have := hr.un; omega
    have ez : z.length = (tl z).length := len_tl z
    refine ⟨_, (pss_cons (ps_set (i := 1) sc_without_word.nd rfl (Or.inr rfl) (pe_callB call_len_str (by rfl) T.b_len (by decide +kernel) (pa_cons (pv 0) pa_nil)))
 (pss_cons (ps_setLc (i := 2) (own := [("here", 3)]) (g := gName 3) rfl sc_without_word.nd rfl rfl (sw_true rfl rfl rfl (by decide +kernel)) (pi_range1 (by rfl) T.b_range (pa_cons (pe_op op_add (pv 1) pe_int) pa_nil)) (blkOk_by (own := [("here", 3)]) (N := ["word", "many", "ends", "here"]) (sc := defScope s_without_word) (by decide +kernel)) (fun _ _ _ _ _ => pg_name (i := 3) sc_without_word.nd rfl (Or.inl rfl)) (fun _ _ _ _ _ => (pts_one (pt_cmpR op_ne (pv 3) (pv 1) (nomark _)))) (fun _ _ _ _ _ => (pv 3)))
 (pss_one (ps_ret (pe_tup (pa_cons (pe_op op_add (pv 1) pe_int) (pa_cons (pe_tup (pa_cons pe_int pa_nil)) (pa_cons (pe_callTy call_tuple_of (by rfl) T.b_tuple (by decide +kernel) (pa_cons (pv 2) pa_nil)) (pa_cons (pe_callTy call_tuple_of (by rfl) T.b_tuple (by decide +kernel) (pa_cons (pe_callB (cr_sortD (enc := mvD) hu6) (by rfl) T.b_sorted (by decide +kernel) (pa_cons (pe_d D_word_moves hr rfl (pa_cons (pv 0) (pa_cons pe_non pa_nil))) pa_nil)) pa_nil)) pa_nil))))))))), ?_⟩
    refine ⟨_, rfl, z, rfl, small5 (by omega), ?_⟩
    refine ⟨_, rfl, _, _, rfl, rfl, _, rfl, (by omega), (by omega), fun D hD => lc_same walk_range hD (fun i ds => ds = (((List.range i).filter fun h => decide (h ≠ z.length)).map fun (h : Nat) => (h : Int)).map PyData.int) rfl (fun _ _ => trivial) yfn_same (by omega) ?_ ?_⟩
    · rintro i x H1 H2 ds hi s1 s2 rfl ⟨rfl, rfl⟩ K K2 k1 k2
      refine ⟨rfl, _, rfl, _, rfl, rfl, _, rfl, ite2 (fun hb => ?_) (fun hb => ?_)⟩
      · have hb : i ≠ z.length := fun e => by rw [e] at hb; simp at hb
        refine ⟨_, rfl, k1 _ _ (.int (0 + (i : Int))) (Same.refl _) (.int _) ?_⟩
        rw [List.range_succ, List.filter_append]
        simp [hb]
      · have hb : i = z.length := by
          have h2 : decide (V.int (0 + (i : Int)) = V.int (z.length : Int)) = true := by simpa using hb
          have := V.int.inj (of_decide_eq_true h2)
          omega
        refine k2 _ (Same.refl _) ?_
        rw [List.range_succ, List.filter_append]
        simp [hb]
    · rintro H1 ys ds s1 hD1 hi rfl
      have e2 : ((z.length : Int) + 2).toNat = z.length + 2 := by omega
      rw [e2] at hi
      refine ⟨_, rfl, _, _, rfl, rfl, small5 (by simp), fun a1 n1 => ?_⟩
      have k1 := Same.new (o := HO.tup [V.int 0]) n1
      refine ⟨_, rfl, D, ys, rfl, .inl ⟨SqL.of (k1 _ _ hD1), fun a2 n2 => ?_⟩⟩
      have k2 := Same.new (o := HO.tup ys) n2
      refine ⟨_, rfl, z, none, rfl, hz, fun p H3 k3 hp ⟨xs, hx, hI⟩ => ?_⟩
      refine ⟨p, xs, _, rfl, SqL.of hx, hI, mv_alike _, mv_sortable _, mv_depth _, fun a3 zs n3 hZ => ?_⟩
      have k4 := Same.new (o := HO.lst zs) n3
      refine ⟨a3, zs, rfl, .inl ⟨SqL.of upd_same, fun a4 n4 => ⟨small5 (by simp), fun a5 n5 => ?_⟩⟩⟩
      have k5 := Same.new (o := HO.tup zs) n4
      have k6 := Same.new (o := HO.tup [V.int ((z.length : Int) + 2), V.ref a1, V.ref a2, V.ref a4]) n5
      refine k _ _ ((((((s1.trans k1).trans k2).trans k3).trans k4).trans k5).trans k6) ?_
      unfold withoutWord
      rw [← ez]
      refine .tup upd_same (.cons (.int _) (.cons (.tup (k6 _ _ (k5 _ _ (k4 _ _ (k3 _ _ (k2 _ _ upd_same))))) (.cons (.int 0) .nil)) (.cons (.tup (k6 _ _ (k5 _ _ (k4 _ _ (k3 _ _ upd_same)))) ?_) (.cons (.tup (k6 _ _ upd_same) ?_) .nil))))
      · exact (((((hi.mono (TK.same k1)).mono (TK.same k2)).mono (TK.same k3)).mono (TK.same k4)).mono (TK.same k5)).mono (TK.same k6)
      · exact ((hZ.mono (TK.same k4)).mono (TK.same k5)).mono (TK.same k6)
/-! ### upto_signs -/
def sp_upto : Sp := fun vs H Q _ => ∃ n : Nat, vs = [.int (n : Int)] ∧ n ≤ 1000 ∧ ∀ v H', Same H H' → Im H' v (mcD (uptoSigns n)) → Q v H'
abbrev s_upto_signs : Stmt := topS 9
theorem sc_upto_signs : FnScope ["number", "made", "here"] ["number"] (defScope s_upto_signs) := ⟨rfl, rfl, rfl, by decide +kernel, rfl, by decide +kernel, by decide +kernel⟩
theorem ok_upto_signs {f : Addr} {fd : FuncData} (F : Fun K "upto_signs" "upto_signs" s_upto_signs f fd) (T : Txt mg) (D_sign_moves : Df P w K mg base 1 "sign_moves" ["origin", "to", "price"] sp_sign_moves) :
    FnOk P w K mg base CX0 2 f fd ["number"] sp_upto := by
  refine F.ok sc_upto_signs (fun vs H Q E h => ?_) (fun cdv A outer s H vs Q E hr h => ?_)
  · obtain ⟨z, rfl, _⟩ := h
    rfl
  · obtain ⟨n, rfl, hn, k⟩ := h
    have hu := hu_of hr
    refine ⟨_, (pss_cons (ps_set (i := 1) sc_upto_signs.nd rfl (Or.inl rfl) (pe_lst pa_nil))
 (pss_cons (ps_for PassesOwn.never rfl (pi_range1 (by rfl) T.b_range (pa_cons (pv 0) pa_nil)) (pg_name (i := 2) sc_upto_signs.nd rfl (Or.inl rfl))
 (pss_one (ps_expr (pe_bm PySem.F.plainAttrs_list PySem.F.slot_list_extend PySem.F.type_list_extend mt_extend (pv 1) (pa_cons (pe_d D_sign_moves hr rfl (pa_cons (pv 2) (pa_cons (pe_op op_add (pv 2) pe_int) (pa_cons pe_int pa_nil)))) pa_nil)))))
 (pss_one (ps_ret (pe_tup (pa_cons (pe_op op_add (pv 0) pe_int) (pa_cons (pe_tup (pa_cons pe_int pa_nil)) (pa_cons (pe_tupRg rfl (by rfl) T.b_tuple (prg_1 (by rfl) T.b_range (pe_op op_add (pv 0) pe_int))) (pa_cons (pe_callTy call_tuple_of (by rfl) T.b_tuple (by decide +kernel) (pa_cons (pv 1) pa_nil)) pa_nil))))))))), ?_⟩
    refine ⟨Nat.zero_le _, fun p hp => ?_⟩
    refine ⟨_, rfl, _, rfl, (by omega), (by omega), for_it walk_range (fun i σ H1 => ∃ v : Option V, σ = [some (.int (n : Int)), some (.ref p), v] ∧ Same H H1 ∧ Ls H1 p ((uptoMoves i).map mvD)) ⟨none, rfl, Same.new hp, [], upd_same, .nil⟩ (fun _ _ _ _ _ => trivial) ?_ ?_⟩
    · rintro i x σ H1 H2 hi ⟨v, rfl, s1, xs, hx, hI⟩ ⟨rfl, rfl⟩
      have hi' : i < n := by omega
      refine ⟨_, rfl, .inl ⟨rfl, _, SqL.of hx⟩, _, rfl, _, rfl, _, _, rfl, rfl, _, _, _, rfl, fun q H3 s2 hq ⟨ys, hy, hJ⟩ => ?_⟩
      have hx2 := s2 _ _ hx
      have lx := hI.length
      have ly := hJ.length
      rw [List.length_map] at lx ly
      rw [signMoves_len] at ly
      rw [uptoMoves_le] at lx
      refine ⟨p, q, xs, ys, rfl, rfl, hx2, hy, small5 (by omega), ?_⟩
      have t3 : TK H3 (upd H3 p (.lst (xs ++ ys))) := (TK.refl H3).lst hx2
      refine ⟨_, rfl, Same.put (s1.trans s2) hp, xs ++ ys, upd_same, ?_⟩
      rw [uptoMoves_succ, List.map_append]
      have e0 : (0 + (i : Int)) = (i : Int) := Int.zero_add _
      rw [e0] at hJ
      exact ((hI.mono (TK.same s2)).mono t3).append (hJ.mono t3)
    · rintro σ H1 ⟨v, rfl, s1, xs, hx, hI⟩
      have e : ((n : Int)).toNat = n := by omega
      rw [e] at hI
      refine ⟨_, rfl, _, _, rfl, rfl, small5 (by simp), fun a1 n1 => ?_⟩
      have k1 := Same.new (o := HO.tup [V.int 0]) n1
      refine ⟨_, rfl, _, _, rfl, rfl, _, rfl, RgOk.of_le (by omega) (by omega) (by omega) (by omega), fun a2 n2 => ?_⟩
      have k2 := Same.new (o := HO.tup (rgV 0 ((n : Int) + 1))) n2
      refine ⟨_, rfl, p, xs, rfl, .inl ⟨SqL.of (k2 _ _ (k1 _ _ hx)), fun a3 n3 => ⟨small5 (by simp), fun a4 n4 => ?_⟩⟩⟩
      have k3 := Same.new (o := HO.tup xs) n3
      have k4 := Same.new (o := HO.tup [V.int ((n : Int) + 1), V.ref a1, V.ref a2, V.ref a3]) n4
      refine k _ _ ((((s1.trans k1).trans k2).trans k3).trans k4) ?_
      refine .tup upd_same (.cons (.int _) (.cons (.tup (k4 _ _ (k3 _ _ (k2 _ _ upd_same))) (.cons (.int 0) .nil)) (.cons (.tup (k4 _ _ (k3 _ _ upd_same)) ?_) (.cons (.tup (k4 _ _ upd_same) ?_) .nil))))
      · rw [rg_nat]
        exact Ims.ints _
      · exact (((hI.mono (TK.same k1)).mono (TK.same k2)).mono (TK.same k3)).mono (TK.same k4)
end
end N1
set_option Elab.async false
set_option linter.all false
set_option maxRecDepth 100000
namespace N1
open PySem PySem.Spec PyProof.Rows L2 TL
theorem DGet.of {H : Hp} {a : Addr} {kvs : List (Key × V)} {k : Key} {v : V} (e : H a = some (.dK kvs)) (hv : valV kvs k = some v) : DGet H a (kV k) (some v) := hv ▸ L2.DGet.k e
theorem DGet.ofT {H : Hp} {a b : Addr} {kvs : List (List Key × V)} {k : List Key} {o : Option V} (e : H a = some (.dT kvs)) (eb : H b = some (.tup (k.map kV))) (hv : valV kvs k = o) : DGet H a (.ref b) o := hv ▸ L2.DGet.t e eb
/-- the draws: the dict at d, its lists at g and s -/
def drK (g s : Addr) (c : Int) : List (Key × V) := [(.inr "great", .ref g), (.inr "small", .ref s), (.inr "count", .int c)]
def Dr (H : Hp) (d g s : Addr) : Prop := ∃ (gs ss : List Int) (c : Int), H d = some (.dK (drK g s c)) ∧ H g = some (.lst (gs.map V.int)) ∧ H s = some (.lst (ss.map V.int)) ∧ (∀ x ∈ gs, 0 ≤ x) ∧ (∀ x ∈ ss, 0 ≤ x ∧ x < 10 ^ 18) ∧ 0 ≤ c ∧ g ≠ s
abbrev ky (x : Str) : Key := Sum.inr x
theorem nk1 : ¬ ky "great" = ky "small" := by decide +kernel
theorem nk2 : ¬ ky "great" = ky "count" := by decide +kernel
theorem nk3 : ¬ ky "small" = ky "count" := by decide +kernel
theorem dr_great (g s : Addr) (c : Int) : valV (drK g s c) (ky "great") = some (.ref g) := valV_pos rfl
theorem dr_small (g s : Addr) (c : Int) : valV (drK g s c) (ky "small") = some (.ref s) := (valV_neg nk1).trans (valV_pos rfl)
theorem dr_count (g s : Addr) (c : Int) : valV (drK g s c) (ky "count") = some (.int c) := (valV_neg nk2).trans ((valV_neg nk3).trans (valV_pos rfl))
theorem dr_put (g s : Addr) (c c' : Int) : putK (drK g s c) (ky "count") (.int c') = drK g s c' := by
  have e1 : ((drK g s c).any fun kv => decide (kv.1 = ky "count")) = true := by unfold drK; simp
  have a1 : decide (ky "great" = ky "count") = false := decide_eq_false nk2
  have a2 : decide (ky "small" = ky "count") = false := decide_eq_false nk3
  unfold putK
  rw [if_pos e1]
  unfold drK
  rw [List.map_cons, List.map_cons, List.map_cons, if_neg nk2, if_neg nk3, if_pos rfl]
  rfl
theorem Dr.same {H H' : Hp} {d g s : Addr} (h : Dr H d g s) (e : Same H H') : Dr H' d g s := by
  obtain ⟨gs, ss, c, h1, h2, h3, r⟩ := h
  exact ⟨gs, ss, c, e _ _ h1, e _ _ h2, e _ _ h3, r⟩
theorem Dr.put {H : Hp} {d g s D : Addr} {o : HO} (h : Dr H d g s) (h1 : D ≠ d) (h2 : D ≠ g) (h3 : D ≠ s) : Dr (upd H D o) d g s := by
  obtain ⟨gs, ss, c, k1, k2, k3, r⟩ := h
  exact ⟨gs, ss, c, by rw [upd_ne h1.symm]; exact k1, by rw [upd_ne h2.symm]; exact k2, by rw [upd_ne h3.symm]; exact k3, r⟩
/-- the draws went on, nothing else changed -/
structure Dk (d g s : Addr) (H H' : Hp) : Prop where
  dr : Dr H' d g s
  kp : Kp [d, g] H H'
  tk : TK H H'
theorem Dk.refl {H : Hp} {d g s : Addr} (h : Dr H d g s) : Dk d g s H H := ⟨h, Kp.refl _ H, TK.refl H⟩
theorem Dk.trans {H H1 H2 : Hp} {d g s : Addr} (a : Dk d g s H H1) (b : Dk d g s H1 H2) : Dk d g s H H2 := ⟨b.dr, a.kp.trans b.kp, a.tk.trans b.tk⟩
theorem Dk.same {H H1 H2 : Hp} {d g s : Addr} (a : Dk d g s H H1) (b : Same H1 H2) : Dk d g s H H2 := ⟨a.dr.same b, a.kp.trans (Kp.of_same b), a.tk.trans (TK.same b)⟩
theorem Dr.ne {H : Hp} {d g s D : Addr} (h : Dr H d g s) (n : H D = none) : D ≠ d ∧ D ≠ g ∧ D ≠ s := by
  obtain ⟨gs, ss, c, h1, h2, h3, r⟩ := h
  exact ⟨(ne_of_none h1 n).symm, (ne_of_none h2 n).symm, (ne_of_none h3 n).symm⟩
theorem Dr.nes {H : Hp} {d g s : Addr} (h : Dr H d g s) : s ≠ d ∧ s ≠ g ∧ d ≠ g := by
  obtain ⟨gs, ss, c, h1, h2, h3, _, _, _, r⟩ := h
  exact ⟨ne_of h3 h1 (by intro z; cases z), r.symm, ne_of h1 h2 (by intro z; cases z)⟩
/-- an object that was not there at the start changes -/
theorem Dk.put {H H' : Hp} {d g s D : Addr} {o : HO} (a : Dk d g s H H') (dr0 : Dr H d g s) (n : H D = none) (ht : ∀ xs, H' D ≠ some (.tup xs)) : Dk d g s H (upd H' D o) := by
  obtain ⟨n1, n2, n3⟩ := dr0.ne n
  exact ⟨a.dr.put n1 n2 n3, a.kp.put (.inl n), a.tk.put ht⟩
theorem mod_range {x m : Int} (hm : 1 ≤ m) : 0 ≤ x % m ∧ x % m < m := ⟨Int.emod_nonneg _ (by omega), Int.emod_lt_of_pos _ (by omega)⟩
section
variable {P : Program} {w : World} {K : PySem.W.Frag} {mg : Str → Option Value} {base : Heap}
/-! ### _law_pick -/
def sp_pick : Sp := fun vs H Q _ => ∃ (d g s : Addr) (many : Int), vs = [.ref d, .int many] ∧ Dr H d g s ∧ 1 ≤ many ∧ many < 1073741824 ∧ ∀ (r : Int) H', 0 ≤ r → r < many → Dk d g s H H' → Q (.int r) H'
abbrev s_law_pick : Stmt := topS 12
theorem sc_law_pick : FnScope ["draws", "many", "great", "count", "small", "cell", "number", "rest"] ["draws", "many"] (defScope s_law_pick) := ⟨rfl, rfl, rfl, by decide +kernel, rfl, by decide +kernel, by decide +kernel⟩
theorem ok_law_pick {f : Addr} {fd : FuncData} (F : Fun K "_law_pick" "_law_pick" s_law_pick f fd) (T : Txt mg) : FnOk P w K mg base CX0 1 f fd ["draws", "many"] sp_pick := by
  refine F.ok sc_law_pick (fun vs H Q E h => ?_) (fun cdv A outer s0 H vs Q E hr h => ?_)
  · obtain ⟨d, g, s, many, rfl, _⟩ := h
    rfl
  · obtain ⟨d, g, s, many, rfl, ⟨gs, ss, c, hd, hg, hs, gp, sp, hc, hgs⟩, hm1, hm2, k⟩ := h
    have hu := hu_of hr
    have ndg : d ≠ g := ne_of hd hg (by intro z; cases z)
    have nds : d ≠ s := ne_of hd hs (by intro z; cases z)
    refine ⟨_, (pss_cons (ps_set (i := 2) sc_law_pick.nd rfl (Or.inl rfl) (pe_dget hu (pv 0) pe_str (fun _ _ => rfl)))
 (pss_cons (ps_if (pt_truth (pv 2) (by intro _; rfl))
 (pss_cons (ps_set (i := 6) sc_law_pick.nd rfl (Or.inl rfl) (pe_ix ix_list (pv 2) pe_int (fun _ _ => rfl)))
 (pss_cons (ps_set (i := 7) sc_law_pick.nd rfl (Or.inl rfl) (pe_op op_fdiv (pv 6) (pv 1)))
 (pss_cons (ps_asg (pv 7) (pg_sub (pv 2) pe_int set_list))
 (pss_cons (ps_if (pt_cmpR op_eq (pv 7) pe_int (nomark _))
 (pss_one (ps_expr (pe_bm PySem.F.plainAttrs_list PySem.F.slot_list_pop PySem.F.type_list_pop mt_popAt (pv 2) (pa_cons pe_int pa_nil))))
 pss_nil)
 (pss_one (ps_ret (pe_op op_mod (pe_callTy call_int1 (by rfl) T.b_int (by decide +kernel) (pa_cons (pv 6) pa_nil)) (pv 1))))))))
 pss_nil)
 (pss_cons (ps_set (i := 3) sc_law_pick.nd rfl (Or.inl rfl) (pe_dget hu (pv 0) pe_str (fun _ _ => rfl)))
 (pss_cons (ps_dput hu (pv 0) pe_str (pe_op op_add (pv 3) pe_int) rfl)
 (pss_cons (ps_set (i := 4) sc_law_pick.nd rfl (Or.inl rfl) (pe_dget hu (pv 0) pe_str (fun _ _ => rfl)))
 (pss_cons (ps_set (i := 5) sc_law_pick.nd rfl (Or.inl rfl) pe_int)
 (pss_cut (ps_if (pt_truth (pv 4) (by intro _; rfl))
 (pss_one (ps_set (i := 5) sc_law_pick.nd rfl (Or.inl rfl) (pe_ix ix_list (pv 4) (pe_op op_mod (pv 3) (pe_callB call_len_seq (by rfl) T.b_len (by decide +kernel) (pa_cons (pv 4) pa_nil))) (fun _ _ => rfl))))
 pss_nil)
 (pss_cons (ps_set (i := 6) sc_law_pick.nd rfl (Or.inl rfl) (pe_op op_mod (pe_callTy call_int1 (by rfl) T.b_int (by decide +kernel) (pa_cons (pe_op op_add (pe_op op_add (pe_op op_mul (pv 5) pe_int) (pe_op op_mul (pv 3) pe_int)) pe_int) pa_nil)) pe_int))
 (pss_cons (ps_set (i := 6) sc_law_pick.nd rfl (Or.inl rfl) (pe_op op_mod (pe_callTy call_int1 (by rfl) T.b_int (by decide +kernel) (pa_cons (pe_op op_mul (pe_op op_xor (pv 6) (pe_op op_shr (pv 6) pe_int)) pe_int) pa_nil)) pe_int))
 (pss_cons (ps_set (i := 6) sc_law_pick.nd rfl (Or.inl rfl) (pe_op op_mod (pe_callTy call_int1 (by rfl) T.b_int (by decide +kernel) (pa_cons (pe_op op_mul (pe_op op_xor (pv 6) (pe_op op_shr (pv 6) pe_int)) pe_int) pa_nil)) pe_int))
 (pss_one (ps_ret (pe_op op_mod (pe_callTy call_int1 (by rfl) T.b_int (by decide +kernel) (pa_cons (pe_op op_shr (pv 6) pe_int) pa_nil)) (pv 1)))))))))))))), ?_⟩
    refine ⟨_, rfl, d, .ref g, rfl, DGet.of hd (dr_great g s c), ?_⟩
    refine ⟨_, rfl, !(gs.map V.int).isEmpty, .inl ⟨_, SqL.of hg, rfl⟩, ite2 (fun hb => ?_) (fun hb => ?_)⟩
    · cases gs with
      | nil => cases hb
      | cons g0 gr =>
        have g00 : 0 ≤ g0 := gp g0 (by simp)
        have hq : 0 ≤ g0 / many := Int.ediv_nonneg g00 (by omega)
        refine ⟨_, rfl, g, _, 0, .int g0, rfl, rfl, SqL.of hg, at_of (j := 0) rfl rfl, ?_⟩
        refine ⟨_, rfl, _, rfl, _, _, rfl, rfl, ⟨by omega, by omega⟩, ?_⟩
        refine ⟨_, rfl, _, rfl, g, _, 0, 0, rfl, rfl, hg, by simp [ixN], ?_⟩
        have res := @mod_range g0 many hm1
        have gp2 : ∀ x ∈ g0 / many :: gr, 0 ≤ x := fun x hx => by
          rcases List.mem_cons.mp hx with rfl | hx
          · exact hq
          · exact gp x (List.mem_cons_of_mem _ hx)
        have dr1 : ∀ (H1 : Hp) (xs : List Int), H1 d = H d → H1 s = H s → (∀ x ∈ xs, 0 ≤ x) → Dr (upd H1 g (.lst (xs.map V.int))) d g s := fun H1 xs e1 e2 hx =>
          ⟨xs, ss, c, by rw [upd_ne ndg, e1]; exact hd, upd_same, by rw [upd_ne hgs.symm, e2]; exact hs, hx, sp, hc, hgs⟩
        refine ⟨_, rfl, rfl, _, rfl, ite2 (fun hz => ?_) (fun hz => ?_)⟩
        · refine ⟨_, rfl, .inl ⟨rfl, _, SqL.of upd_same⟩, g, _, 0, 0, _, rfl, rfl, upd_same, by decide, by decide, by simp [seqIndex?], rfl, ?_⟩
          refine ⟨_, rfl, .inl ⟨_, rfl, _, rfl, _, _, rfl, rfl, by omega, ?_⟩⟩
          refine k _ _ res.1 res.2 ⟨?_, ?_, ?_⟩
          · exact dr1 _ gr (upd_ne ndg) (upd_ne hgs.symm) (fun x hx => gp x (List.mem_cons_of_mem _ hx))
          · exact ((Kp.refl _ H).put (.inr (by simp))).put (.inr (by simp))
          · exact ((TK.refl H).lst hg).lst upd_same
        · refine ⟨_, rfl, .inl ⟨_, rfl, _, rfl, _, _, rfl, rfl, by omega, ?_⟩⟩
          refine k _ _ res.1 res.2 ⟨?_, ?_, ?_⟩
          · exact dr1 _ (g0 / many :: gr) rfl rfl gp2
          · exact (Kp.refl _ H).put (.inr (by simp))
          · exact (TK.refl H).lst hg
    · refine ⟨_, rfl, d, .int c, rfl, DGet.of hd (dr_count g s c), ?_⟩
      refine ⟨_, rfl, _, _, rfl, rfl, _, rfl, d, _, rfl, L2.DPut.k (k := ky "count") hd (by show 3 < sizeLine; decide), ?_⟩
      rw [dr_put]
      have hd2 : upd H d (.dK (drK g s (c + 1))) d = some (.dK (drK g s (c + 1))) := upd_same
      have hs2 : upd H d (.dK (drK g s (c + 1))) s = some (.lst (ss.map V.int)) := by rw [upd_ne nds.symm]; exact hs
      have dr2 : Dr (upd H d (.dK (drK g s (c + 1)))) d g s := ⟨gs, ss, c + 1, hd2, by rw [upd_ne ndg.symm]; exact hg, hs2, gp, sp, by omega, hgs⟩
      refine ⟨_, rfl, d, .ref s, rfl, DGet.of hd2 (dr_small g s (c + 1)), ?_⟩
      refine ⟨fun σ' H' => H' = upd H d (.dK (drK g s (c + 1))) ∧ ∃ cell : Int, σ' = [some (.ref d), some (.int many), some (.ref g), some (.int c), some (.ref s), some (.int cell), none, none], ?_, ?_⟩
      · refine ⟨_, rfl, !(ss.map V.int).isEmpty, .inl ⟨_, SqL.of hs2, rfl⟩, ite2 (fun hb => ?_) (fun hb => ?_)⟩
        · cases ss with
          | nil => cases hb
          | cons s1 sr =>
            have hlen : ((s1 :: sr).map V.int).length = sr.length + 1 := by simp
            have r1 := @mod_range c ((((s1 :: sr).map V.int).length : Nat) : Int) (by omega)
            have hj : (c % ((((s1 :: sr).map V.int).length : Nat) : Int)).toNat < ((s1 :: sr).map V.int).length := by omega
            refine ⟨_, rfl, _, rfl, _, rfl, s, _, rfl, .inl (SqL.of hs2), _, _, rfl, rfl, by omega, s, _, _, (((s1 :: sr).map V.int)[(c % ((((s1 :: sr).map V.int).length : Nat) : Int)).toNat]), rfl, rfl, SqL.of hs2, ?_, ?_⟩
            · exact at_of (j := (c % ((((s1 :: sr).map V.int).length : Nat) : Int)).toNat) (by omega) (List.getElem?_eq_getElem hj)
            · refine ⟨rfl, ((s1 :: sr)[(c % ((((s1 :: sr).map V.int).length : Nat) : Int)).toNat]'(by simpa using hj)), ?_⟩
              rw [List.getElem_map]
              rfl
        · exact ⟨rfl, 0, rfl⟩
      · rintro σ' H' ⟨rfl, cell, rfl⟩
        have m32 : ∀ x : Int, 0 ≤ x % 4294967296 ∧ x % 4294967296 < 4294967296 := fun x => mod_range (by decide)
        refine ⟨_, rfl, _, _, rfl, rfl, .inr ⟨by decide, by decide⟩, _, rfl, _, _, rfl, rfl, .inr ⟨by decide, by decide⟩, ?_⟩
        have p32 : (0 : Int) < 4294967296 := by decide
        have p15 : (0 : Int) ≤ 15 := by decide
        have p12 : (0 : Int) ≤ 12 := by decide
        have p8 : (0 : Int) ≤ 8 := by decide
        refine ⟨_, _, rfl, rfl, _, _, rfl, rfl, .inl ⟨_, rfl, _, _, rfl, rfl, p32, ?_⟩⟩
        refine ⟨_, rfl, _, rfl, _, _, rfl, rfl, p15, _, _, rfl, rfl, _, _, rfl, rfl, .inr ⟨by decide, by decide⟩, .inl ⟨_, rfl, _, _, rfl, rfl, p32, ?_⟩⟩
        refine ⟨_, rfl, _, rfl, _, _, rfl, rfl, p12, _, _, rfl, rfl, _, _, rfl, rfl, .inr ⟨by decide, by decide⟩, .inl ⟨_, rfl, _, _, rfl, rfl, p32, ?_⟩⟩
        refine ⟨_, rfl, _, _, rfl, rfl, p8, .inl ⟨_, rfl, _, rfl, _, _, rfl, rfl, by omega, ?_⟩⟩
        have res := fun x => @mod_range x many hm1
        exact k _ _ (res _).1 (res _).2 ⟨dr2, (Kp.refl _ H).put (.inr (by simp)), (TK.refl H).dk hd⟩
end
end N1
set_option Elab.async false
set_option linter.all false
set_option maxRecDepth 100000
namespace N1
open PySem PySem.Spec PyProof.Rows L2 TL
abbrev LET : Str := Str.ofString "abcdefghijklmnopqrstuvwxyz0123456789"
def lets : List Nat := [97, 98, 99, 100, 101, 102, 103, 104, 105, 106, 107, 108, 109, 110, 111, 112, 113, 114, 115, 116, 117, 118, 119, 120, 121, 122, 48, 49, 50, 51, 52, 53, 54, 55, 56, 57]
theorem tl_LET : tl LET = lets := by decide +kernel
theorem lets_alnum : ∀ c ∈ lets, alnum c = true := by decide +kernel
/-- letters and figures alone -/
def Al (z : Str) : Prop := ∀ c ∈ tl z, alnum c = true
theorem cutV_ints (ns : List Int) (lo hi : Option Int) : ∃ ms : List Int, cutV (ns.map V.int) lo hi = ms.map V.int ∧ ms.length ≤ ns.length ∧ ∀ x ∈ ms, x ∈ ns := by
  unfold cutV
  rw [← List.map_drop, ← List.map_take]
  refine ⟨_, rfl, ?_, fun x hx => List.mem_of_mem_drop (List.mem_of_mem_take hx)⟩
  rw [List.length_take, List.length_drop]
  omega
theorem join_signs (cs : List Nat) : Txt.join (Str.ofString "") (cs.map sg) = ⟨cs.toArray⟩ := by
  apply ext_tl
  rw [join_eq, tl_join, List.map_map]
  have e0 : tl (Str.ofString "") = [] := by decide +kernel
  rw [e0]
  have e1 : cs.map (tl ∘ sg) = cs.map fun c => [c] := rfl
  rw [e1]
  show joinL [] (cs.map fun c => [c]) = cs
  induction cs with
  | nil => rfl
  | cons c cs ih =>
    cases cs with
    | nil => rfl
    | cons d cs =>
      show [c] ++ ([] ++ joinL [] ((d :: cs).map fun c => [c])) = _
      rw [ih rfl]
      rfl
section
variable {P : Program} {w : World} {K : PySem.W.Frag} {mg : Str → Option Value} {base : Heap}
/-! ### _law_letters -/
def sp_letters : Sp := fun vs H Q _ => vs = [] ∧ Q (.str LET) H
abbrev s_law_letters : Stmt := topS 13
theorem sc_law_letters : FnScope [] [] (defScope s_law_letters) := ⟨rfl, rfl, rfl, by decide +kernel, rfl, by decide +kernel, by decide +kernel⟩
theorem ok_law_letters {f : Addr} {fd : FuncData} (F : Fun K "_law_letters" "_law_letters" s_law_letters f fd) : FnOk P w K mg base CX0 1 f fd [] sp_letters := by
  refine F.ok sc_law_letters (fun vs H Q E h => ?_) (fun cdv A outer s0 H vs Q E hr h => ?_)
  · rw [h.1]
    rfl
  · obtain ⟨rfl, k⟩ := h
    exact ⟨_, (pss_one (ps_ret pe_str)), k⟩
/-! ### _law_begin -/
def sp_begin (K : PySem.W.Frag) : Sp := fun vs H Q _ => ∃ (a : Addr) (ns : List Int), vs = [.ref a] ∧ SqL K H a (ns.map V.int) ∧ ns.length ≤ 63 ∧ ∀ d g s H', Same H H' → Dr H' d g s → Q (.ref d) H'
abbrev s_law_begin : Stmt := topS 11
theorem sc_law_begin : FnScope ["script", "cells", "great", "small", "cell"] ["script"] (defScope s_law_begin) := ⟨rfl, rfl, rfl, by decide +kernel, rfl, by decide +kernel, by decide +kernel⟩
theorem ok_law_begin {f : Addr} {fd : FuncData} (F : Fun K "_law_begin" "_law_begin" s_law_begin f fd) (T : Txt mg) : FnOk P w K mg base CX0 1 f fd ["script"] (sp_begin K) := by
  refine F.ok sc_law_begin (fun vs H Q E h => ?_) (fun cdv A outer s0 H vs Q E hr h => ?_)
  · obtain ⟨a, ns, rfl, _⟩ := h
    rfl
  · obtain ⟨a, ns, rfl, ha, hn, k⟩ := h
    have p10 : ((10 : Int) ^ (18 : Int).toNat) = 10 ^ 18 := rfl
    have c10 : CPow 10 18 := ⟨by decide, by decide, by decide⟩
    refine ⟨_, (pss_cons (ps_setLc (i := 1) (own := [("cell", 4)]) (g := gName 4) rfl sc_law_begin.nd rfl rfl (sw_true rfl rfl rfl (by decide +kernel)) (pi_list (pe_slice sl_list (pv 0) po_none (po_some pe_int))) (blkOk_by (own := [("cell", 4)]) (N := ["script", "cells", "great", "small", "cell"]) (sc := defScope s_law_begin) (by decide +kernel)) (fun _ _ _ _ _ => pg_name (i := 4) sc_law_begin.nd rfl (Or.inl rfl)) (fun _ _ _ _ _ => pts_nil) (fun _ _ _ _ _ => (pe_callB call_abs (by rfl) T.b_abs (by decide +kernel) (pa_cons (pe_callTy call_int1 (by rfl) T.b_int (by decide +kernel) (pa_cons (pv 4) pa_nil)) pa_nil))))
 (pss_cons (ps_setLc (i := 2) (own := [("cell", 4)]) (g := gName 4) rfl sc_law_begin.nd rfl rfl (sw_true rfl rfl rfl (by decide +kernel)) (pi_list (pv 1)) (blkOk_by (own := [("cell", 4)]) (N := ["script", "cells", "great", "small", "cell"]) (sc := defScope s_law_begin) (by decide +kernel)) (fun _ _ _ _ _ => pg_name (i := 4) sc_law_begin.nd rfl (Or.inl rfl)) (fun _ _ _ _ _ => (pts_one (pt_cmpR op_ge (pv 4) (pe_op op_pow pe_int pe_int) (nomark _)))) (fun _ _ _ _ _ => (pv 4)))
 (pss_cons (ps_setLc (i := 3) (own := [("cell", 4)]) (g := gName 4) rfl sc_law_begin.nd rfl rfl (sw_true rfl rfl rfl (by decide +kernel)) (pi_list (pv 1)) (blkOk_by (own := [("cell", 4)]) (N := ["script", "cells", "great", "small", "cell"]) (sc := defScope s_law_begin) (by decide +kernel)) (fun _ _ _ _ _ => pg_name (i := 4) sc_law_begin.nd rfl (Or.inl rfl)) (fun _ _ _ _ _ => (pts_one (pt_cmpR op_lt (pv 4) (pe_op op_pow pe_int pe_int) (nomark _)))) (fun _ _ _ _ _ => (pv 4)))
 (pss_one (ps_ret (pe_disp (pps_cons pe_str (pv 2) (pps_cons pe_str (pv 3) (pps_cons pe_str pe_int pps_nil))) (by rfl) (by rfl) (fun z => by cases z) (by decide))))))), ?_⟩
    obtain ⟨ms, em, lm, _⟩ := cutV_ints ns none (some 63)
    refine ⟨_, rfl, _, rfl, a, _, rfl, ha, fun p hp => ?_⟩
    rw [em]
    have s1 : Same H (upd H p (.lst (ms.map V.int))) := Same.new hp
    refine ⟨p, rfl, ⟨_, SqL.of upd_same⟩, fun D hD => lc_same1 (walk_list (xs := ms.map V.int)) hD (fun i ds => ∃ gs : List Int, ds = gs.map PyData.int ∧ gs.length ≤ i ∧ ∀ x ∈ gs, 0 ≤ x) ⟨[], rfl, by simp, by simp⟩ (fun H' e => SqL.of (e _ _ upd_same)) yat_same (by rw [List.length_map]; omega) ?_ ?_⟩
    · rintro i x H1 H2 ds hi e1 e2 ⟨gs, rfl, hl, hg⟩ ⟨rfl, hx⟩ K1 k1
      rw [List.getElem?_map] at hx
      cases q : ms[i]? with
      | none => rw [q] at hx; cases hx
      | some n =>
        rw [q] at hx
        cases hx
        refine ⟨rfl, _, rfl, .inl ⟨_, rfl, _, rfl, k1 _ _ (.int _) (Same.refl _) (.int _) ⟨gs ++ [if n < 0 then -n else n], by rw [List.map_append]; rfl, by rw [List.length_append]; exact Nat.succ_le_succ hl, fun x hx => ?_⟩⟩⟩
        rcases List.mem_append.mp hx with h | h
        · exact hg x h
        · rw [List.mem_singleton.mp h]
          split <;> omega
    · rintro H1 ys ds e1 hD1 hi ⟨cs, rfl, lcs, hcs⟩
      have ey := Ims.ints_of hi
      subst ey
      rw [List.length_map] at lcs
      refine ⟨_, rfl, D, rfl, ⟨_, SqL.of hD1⟩, fun g hg => lc_same (walk_list (xs := cs.map V.int)) hg (fun i ds => ∃ gs : List Int, ds = gs.map PyData.int ∧ ∀ x ∈ gs, 0 ≤ x) ⟨[], rfl, by simp⟩ (fun H' e => SqL.of (e _ _ hD1)) yat_same (by rw [List.length_map]; omega) ?_ ?_⟩
      · rintro i x H2 H3 ds hi e2 e3 ⟨gs, rfl, hg⟩ ⟨rfl, hx⟩ K1 K2 k1 k2
        rw [List.getElem?_map] at hx
        cases q : cs[i]? with
        | none => rw [q] at hx; cases hx
        | some n =>
          rw [q] at hx
          cases hx
          refine ⟨rfl, _, rfl, _, _, rfl, rfl, c10, _, _, rfl, rfl, _, rfl, ite2 (fun hb => ?_) (fun hb => ?_)⟩
          · refine ⟨_, rfl, k1 _ _ (.int n) (Same.refl _) (.int _) ⟨gs ++ [n], by rw [List.map_append]; rfl, fun x hx => ?_⟩⟩
            rcases List.mem_append.mp hx with h | h
            · exact hg x h
            · rw [List.mem_singleton.mp h]
              exact hcs n (List.mem_of_getElem? q)
          · exact k2 _ (Same.refl _) ⟨gs, rfl, hg⟩
      · rintro H2 ys ds e2 hg2 hi ⟨gs, rfl, hgs⟩
        have ey := Ims.ints_of hi
        subst ey
        refine ⟨_, rfl, D, rfl, ⟨_, SqL.of (e2 _ _ hD1)⟩, fun s hs => lc_same (walk_list (xs := cs.map V.int)) hs (fun i ds => ∃ ss : List Int, ds = ss.map PyData.int ∧ ∀ x ∈ ss, 0 ≤ x ∧ x < 10 ^ 18) ⟨[], rfl, by simp⟩ (fun H' e => SqL.of (e _ _ (e2 _ _ hD1))) yat_same (by rw [List.length_map]; omega) ?_ ?_⟩
        · rintro i x H3 H4 ds hi e3 e4 ⟨ss, rfl, hss⟩ ⟨rfl, hx⟩ K1 K2 k1 k2
          rw [List.getElem?_map] at hx
          cases q : cs[i]? with
          | none => rw [q] at hx; cases hx
          | some n =>
            rw [q] at hx
            cases hx
            refine ⟨rfl, _, rfl, _, _, rfl, rfl, c10, _, _, rfl, rfl, _, rfl, ite2 (fun hb => ?_) (fun hb => ?_)⟩
            · refine ⟨_, rfl, k1 _ _ (.int n) (Same.refl _) (.int _) ⟨ss ++ [n], by rw [List.map_append]; rfl, fun x hx => ?_⟩⟩
              rcases List.mem_append.mp hx with h | h
              · exact hss x h
              · rw [List.mem_singleton.mp h]
                exact ⟨hcs n (List.mem_of_getElem? q), of_decide_eq_true hb⟩
            · exact k2 _ (Same.refl _) ⟨ss, rfl, hss⟩
        · rintro H3 ys ds e3 hs3 hi ⟨ss, rfl, hss⟩
          have ey := Ims.ints_of hi
          subst ey
          refine fun d hd => ?_
          have hg3 := e3 _ _ hg2
          have ngs : g ≠ s := ne_of_none hg2 hs
          have ndg : d ≠ g := (ne_of_none hg3 hd).symm
          have nds : d ≠ s := (ne_of_none hs3 hd).symm
          refine ⟨_, rfl, _, rfl, upd_same, drK g s 0, rfl, by show 3 ≤ 15; decide, ?_⟩
          have em : mergeK [] (drK g s 0) = drK g s 0 := by
            show putK (putK (putK [] (ky "great") (.ref g)) (ky "small") (.ref s)) (ky "count") (.int 0) = _
            rw [putK_new (kvs := []) _ rfl, putK_new (k := ky "small") _ (by rw [List.nil_append]; exact valV_neg nk1), putK_new (k := ky "count") _ (by exact (valV_neg nk2).trans (valV_neg nk3))]
            rfl
          rw [em]
          have sAll : Same H H3 := ((s1.trans e1).trans e2).trans e3
          refine k d g s _ (Same.put (Same.put sAll (sAll.free hd)) (sAll.free hd)) ⟨gs, ss, 0, upd_same, ?_, ?_, hgs, hss, by decide, ngs⟩
          · rw [upd_ne ndg.symm, upd_ne ndg.symm]; exact hg3
          · rw [upd_ne nds.symm, upd_ne nds.symm]; exact hs3
end
end N1
set_option Elab.async false
set_option linter.all false
set_option maxRecDepth 100000
namespace N1
open PySem PySem.Spec PyProof.Rows L2 TL
theorem Dk.lst {H H' : Hp} {d g s D : Addr} {ys zs : List V} (a : Dk d g s H H') (dr0 : Dr H d g s) (n : H D = none) (h : H' D = some (.lst ys)) : Dk d g s H (upd H' D (.lst zs)) := a.put dr0 n fun xs z => by rw [h] at z; cases z
theorem Dk.new {H : Hp} {d g s D : Addr} {o : HO} (dr0 : Dr H d g s) (n : H D = none) : Dk d g s H (upd H D o) := (Dk.refl dr0).put dr0 n fun xs z => by rw [n] at z; cases z
theorem Dk.at_ {H H' : Hp} {d g s D : Addr} {o : HO} (a : Dk d g s H H') (h : H D = some o) (h1 : D ≠ d) (h2 : D ≠ g) : H' D = some o := a.kp _ _ h (by simp [h1, h2])
theorem Dk.none_of {H H' : Hp} {d g s D : Addr} (a : Dk d g s H H') (h : H' D = none) : H D = none := by
  obtain ⟨n1, n2, _⟩ := a.dr.ne h
  exact a.kp.none_of h (by simp [n1, n2])
theorem tl_mk2 (cs : List Nat) : tl (⟨cs.toArray⟩ : Str) = cs := rfl
theorem len_mk (cs : List Nat) : (⟨cs.toArray⟩ : Str).length = cs.length := by rw [len_tl]
theorem sum_len1 : ∀ cs : List Nat, ((cs.map sg).map Str.length).sum = cs.length
  | [] => rfl
  | c :: cs => by
    rw [List.map_cons, List.map_cons, List.sum_cons, sum_len1 cs, List.length_cons]
    show 1 + _ = _
    omega
section
variable {P : Program} {w : World} {K : PySem.W.Frag} {mg : Str → Option Value} {base : Heap}
/-! ### _law_word -/
def sp_word : Sp := fun vs H Q _ => ∃ (d g s : Addr) (most few : Int), vs = [.ref d, .int most, .int few] ∧ Dr H d g s ∧ 1 ≤ most ∧ most ≤ 1000 ∧ 1 ≤ few ∧ few ≤ 1000 ∧ ∀ (z : Str) H', Al z → 1 ≤ z.length → (z.length : Int) ≤ most → Dk d g s H H' → Q (.str z) H'
abbrev s_law_word : Stmt := topS 14
theorem sc_law_word : FnScope ["draws", "most", "few", "letters", "first", "size", "k"] ["draws", "most", "few"] (defScope s_law_word) := ⟨rfl, rfl, rfl, by decide +kernel, rfl, by decide +kernel, by decide +kernel⟩
theorem ok_law_word {f : Addr} {fd : FuncData} (F : Fun K "_law_word" "_law_word" s_law_word f fd) (T : Txt mg) (D_law_letters : Df P w K mg base 1 "_law_letters" [] sp_letters) (D_law_pick : Df P w K mg base 1 "_law_pick" ["draws", "many"] sp_pick) :
    FnOk P w K mg base CX0 2 f fd ["draws", "most", "few"] sp_word := by
  refine F.ok sc_law_word (fun vs H Q E h => ?_) (fun cdv A outer s0 H vs Q E hr h => ?_)
  · obtain ⟨d, g, s, m, fw, rfl, _⟩ := h
    rfl
  · obtain ⟨d, g, s, most, few, rfl, dr, m1, m2, f1, f2, k⟩ := h
    refine ⟨_, (pss_cons (ps_set (i := 3) sc_law_word.nd rfl (Or.inr rfl) (pe_d0 D_law_letters hr rfl))
 (pss_cons (ps_set (i := 4) sc_law_word.nd rfl (Or.inr rfl) (pe_d D_law_pick hr rfl (pa_cons (pv 0) (pa_cons pe_int pa_nil))))
 (pss_cons (ps_set (i := 5) sc_law_word.nd rfl (Or.inl rfl) (pe_op op_add pe_int (pe_d D_law_pick hr rfl (pa_cons (pv 0) (pa_cons (pv 1) pa_nil)))))
 (pss_one (ps_ret (pe_join pe_str (pe_lc (own := [("k", 6)]) (g := gName 6) (by rfl) sc_law_word.nd (pi_range1 (by rfl) T.b_range (pa_cons (pv 5) pa_nil)) (blkOk_by (own := [("k", 6)]) (N := ["draws", "most", "few", "letters", "first", "size", "k"]) (sc := defScope s_law_word) (by decide +kernel)) (fun _ _ _ _ _ => pg_name (i := 6) sc_law_word.nd rfl (Or.inl rfl)) (fun _ _ _ _ _ => pts_nil) (fun _ _ _ _ _ => (pe_ix ix_str (pv 3) (pe_op op_mod (pe_callTy call_int1 (by rfl) T.b_int (by decide +kernel) (pa_cons (pe_op op_add (pv 4) (pe_d D_law_pick hr rfl (pa_cons (pv 0) (pa_cons (pv 2) pa_nil)))) pa_nil)) pe_int) (fun _ _ => rfl)))))))))), ?_⟩
    refine ⟨rfl, _, rfl, d, g, s, 36, rfl, dr, by decide, by decide, fun r H1 r0 r1 k1 => ?_⟩
    refine ⟨_, rfl, _, rfl, d, g, s, most, rfl, k1.dr, by omega, by omega, fun r2 H2 r20 r21 k2 => ⟨_, _, rfl, rfl, ?_⟩⟩
    refine ⟨⟨_, rfl⟩, _, rfl, _, rfl, by omega, by omega, fun D hD => ?_⟩
    obtain ⟨nd, ng, ns⟩ := k2.dr.ne hD
    refine lc_good1 walk_range (fun Hx => Dk d g s H2 Hx) (fun i ds => ∃ cs : List Nat, ds = (cs.map sg).map PyData.str ∧ (∀ c ∈ cs, alnum c = true) ∧ cs.length = i) (Dk.new k2.dr hD) ⟨[], rfl, by simp, rfl⟩ (fun _ _ => trivial) (fun Hx ys zs p q => p.lst k2.dr hD q) (by omega) ?_ ?_
    · rintro i x H3 H4 ys ds hi p3 hl hI ⟨cs, rfl, hcs, rfl⟩ ⟨rfl, rfl⟩ K1 kk
      refine ⟨rfl, _, rfl, _, rfl, _, rfl, _, rfl, d, g, s, few, rfl, p3.dr, f1, by omega, fun r3 H5 r30 r31 k5 => ?_⟩
      refine ⟨_, _, rfl, rfl, .inl ⟨_, rfl, _, _, rfl, rfl, show (0 : Int) < 36 by decide, ?_⟩⟩
      have rr := @mod_range (r + r3) 36 (by decide)
      have hj : ((r + r3) % 36).toNat < lets.length := by show _ < 36; omega
      refine ⟨LET, _, lets[((r + r3) % 36).toNat], rfl, rfl, by decide +kernel, at_any (j := ((r + r3) % 36).toNat) (by omega) (by rw [show LET.cps.toList = lets from tl_LET]; exact List.getElem?_eq_getElem hj), ?_⟩
      refine kk _ H5 (.str (sg lets[((r + r3) % 36).toNat])) (p3.trans k5) k5.tk (k5.at_ hl nd ng) (.str _) ⟨cs ++ [lets[((r + r3) % 36).toNat]], by simp, fun c hc => ?_, by simp⟩
      rcases List.mem_append.mp hc with h | h
      · exact hcs c h
      · rw [List.mem_singleton.mp h]
        exact lets_alnum _ (List.getElem_mem _)
    · rintro H3 ys ds p3 hl hI ⟨cs, rfl, hcs, hlen⟩
      have ey := Ims.strs_of hI
      subst ey
      refine ⟨Str.ofString "", D, cs.map sg, rfl, rfl, .inl (SqL.of hl), ?_, ?_⟩
      · rw [sum_len1, show (Str.ofString "").length = 0 from by decide +kernel]
        omega
      · rw [join_signs]
        refine k _ H3 hcs ?_ ?_ ((k1.trans k2).trans p3)
        · rw [len_mk]; omega
        · rw [len_mk]; omega
end
end N1
set_option Elab.async false
set_option linter.all false
set_option maxRecDepth 100000
namespace N1
open PySem PySem.Spec PyProof.Rows L2 TL
/-- signs alone -/
def Sn (z : Str) : Prop := ∀ c ∈ tl z, c ∈ sigs
theorem alnum_sig : ∀ {c : Nat}, alnum c = true → c ∈ sigs := by
  intro c h
  unfold alnum at h
  simp only [Bool.or_eq_true, decide_eq_true_eq] at h
  have h1 : ∀ c ∈ tl LETTERS, c ∈ sigs := by decide +kernel
  have h2 : ∀ c ∈ tl FIGURES, c ∈ sigs := by decide +kernel
  exact h.elim (h1 c) (h2 c)
theorem Al.sn {z : Str} (h : Al z) : Sn z := fun c hc => alnum_sig (h c hc)
theorem cut_sub (z : Str) (lo hi : Option Int) : ∀ c ∈ tl (cutS z lo hi), c ∈ tl z := fun c hc => by
  have : c ∈ ((z.cps.toList.drop (HT.sIx z.length 0 lo)).take (HT.sIx z.length z.length hi - HT.sIx z.length 0 lo)) := hc
  exact List.mem_of_mem_drop (List.mem_of_mem_take this)
theorem cut_pre (z : Str) (m : Nat) : tl (cutS z none (some (m : Int))) = (tl z).take m := by
  show (z.cps.toList.drop 0).take (HT.sIx z.length z.length (some (m : Int)) - 0) = _
  rw [HT.sIx_nat, List.drop_zero, Nat.sub_zero]
  show (tl z).take (min m z.length) = _
  rw [len_tl, ← List.take_take, List.take_length]
theorem cut_pre_len (z : Str) {i : Int} (h : 0 ≤ i) : (cutS z none (some i)).length = min i.toNat z.length := by
  obtain ⟨m, rfl⟩ : ∃ m : Nat, i = (m : Int) := ⟨i.toNat, by omega⟩
  rw [len_tl, cut_pre, List.length_take, len_tl]
  rfl
theorem len_app (x y : Str) : (x ++ y).length = x.length + y.length := by rw [len_tl, len_tl, len_tl, tl_append, List.length_append]
theorem Al.app {x y : Str} (h1 : Al x) (h2 : Al y) : Al (x ++ y) := fun c hc => by
  rw [tl_append] at hc
  exact (List.mem_append.mp hc).elim (h1 c) (h2 c)
theorem Sn.app {x y : Str} (h1 : Sn x) (h2 : Sn y) : Sn (x ++ y) := fun c hc => by
  rw [tl_append] at hc
  exact (List.mem_append.mp hc).elim (h1 c) (h2 c)
theorem Al.cut {x : Str} (h : Al x) (lo hi : Option Int) : Al (cutS x lo hi) := fun c hc => h c (cut_sub x lo hi c hc)
theorem Sn.cut {x : Str} (h : Sn x) (lo hi : Option Int) : Sn (cutS x lo hi) := fun c hc => h c (cut_sub x lo hi c hc)
theorem q7_rep (n : Nat) : Sn (repS (Str.ofString "q7") n) ∧ (repS (Str.ofString "q7") n).length = n * 2 := by
  have e : tl (Str.ofString "q7") = [113, 55] := by decide +kernel
  constructor
  · intro c hc
    rw [tl_repS, e] at hc
    obtain ⟨l, hl, hc⟩ := List.mem_flatten.mp hc
    rw [List.eq_of_mem_replicate hl] at hc
    have : ∀ c ∈ [113, 55], c ∈ sigs := by decide
    exact this c hc
  · rw [len_tl, tl_repS, len_flat, e]
    rfl
/-! ### the words of a text -/
def cut3 (c : Nat) : Nat := if c = 40 ∨ c = 41 ∨ c = 44 then 46 else c
theorem repl1 (c d : Nat) : ∀ l : List Nat, StrLaws.replL [c] [d] l = l.map fun a => if a = c then d else a
  | [] => StrLaws.replL_nil
  | a :: l => by
    by_cases h : a = c
    · have hh : (a :: l).take [c].length = [c] := by rw [h]; rfl
      rw [StrLaws.replL_hit (by simp) hh, List.map_cons, if_pos h]
      show d :: StrLaws.replL [c] [d] l = _
      rw [repl1 c d l]
    · have hh : ¬ (a :: l).take [c].length = [c] := fun e => h (by
        have : [a] = [c] := e
        simpa using this)
      rw [StrLaws.replL_miss hh, List.map_cons, if_neg h, repl1 c d l]
end N1
set_option Elab.async false
set_option linter.all false
set_option maxRecDepth 100000
namespace N1
open PySem PySem.Spec PyProof.Rows L2 TL
abbrev DOT : Str := Str.ofString "."
theorem tl_DOT : tl DOT = [46] := by decide +kernel
theorem repl_tl (x : Str) (c : Nat) : tl (Txt.replace x (sg c) DOT) = (tl x).map fun a => if a = c then 46 else a := by
  have h := StrLaws.replace_list (x := x) (y := sg c) (z := DOT) (by show 1 ≤ 1; exact Nat.le_refl _)
  have e : DOT.cps.toList = [46] := tl_DOT
  rw [e] at h
  exact h.trans (repl1 c 46 _)
theorem repAll_len : ∀ (l : List Nat) (t : Str), (repAll DOT l t).length = t.length
  | [], t => rfl
  | c :: l, t => by
    show (repAll DOT l (Txt.replace t ⟨#[c]⟩ DOT)).length = _
    rw [repAll_len l, len_tl, len_tl]
    show (tl (Txt.replace t (sg c) DOT)).length = _
    rw [repl_tl, List.length_map]
theorem repAll3 (t : Str) : tl (repAll DOT [40, 41, 44] t) = (tl t).map cut3 := by
  show tl (Txt.replace (Txt.replace (Txt.replace t (sg 40) DOT) (sg 41) DOT) (sg 44) DOT) = _
  rw [repl_tl, repl_tl, repl_tl, List.map_map, List.map_map]
  refine List.map_congr_left fun a _ => ?_
  simp only [Function.comp, cut3]
  by_cases h1 : a = 40
  · subst h1; rfl
  · by_cases h2 : a = 41
    · subst h2; rfl
    · by_cases h3 : a = 44
      · subst h3; rfl
      · simp [h1, h2, h3]
def wordsOf (l : List Nat) : List (List Nat) := spl [46] 0 [] (l.map cut3)
section
variable {P : Program} {w : World} {K : PySem.W.Frag} {mg : Str → Option Value} {base : Heap}
/-! ### _law_words -/
def sp_words : Sp := fun vs H Q _ => ∃ t : Str, vs = [.str t] ∧ t.length ≤ 1000 ∧ ∀ (p : Addr) (ys : List Str), H p = none → ys.map tl = wordsOf (tl t) → Q (.ref p) (upd H p (.lst (ys.map V.str)))
abbrev s_law_words : Stmt := topS 25
theorem sc_law_words : FnScope ["text", "sign"] ["text"] (defScope s_law_words) := ⟨rfl, rfl, rfl, by decide +kernel, rfl, by decide +kernel, by decide +kernel⟩
theorem ok_law_words {f : Addr} {fd : FuncData} (F : Fun K "_law_words" "_law_words" s_law_words f fd) (T : Txt mg) : FnOk P w K mg base CX0 1 f fd ["text"] sp_words := by
  refine F.ok sc_law_words (fun vs H Q E h => ?_) (fun cdv A outer s0 H vs Q E hr h => ?_)
  · obtain ⟨t, rfl, _⟩ := h
    rfl
  · obtain ⟨t, rfl, ht, k⟩ := h
    refine ⟨_, (pss_cons (ps_forRep (ix := 1) (iy := 0) PassesOwn.never rfl sc_law_words.nd rfl rfl rfl rfl (by decide) (by decide +kernel) rfl rfl rfl rfl (by decide) (by decide) (by decide))
 (pss_one (ps_ret (pe_split (pv 0) pe_str)))), ?_⟩
    have e3 : tl (Str.ofString "(),") = [40, 41, 44] := by decide +kernel
    refine ⟨t, rfl, by decide +kernel, fun n => ?_, fun σ' h1 h2 h3 => ?_⟩
    · rw [repAll_len, show (Str.ofString ".").length = 1 from by decide +kernel]
      omega
    · refine ⟨_, h3, ⟨_, rfl⟩, _, _, rfl, rfl, by decide +kernel, ?_, fun p hp => k p _ hp ?_⟩
      · rw [repAll_len]
        exact small5 (by omega)
      · rw [split_spl _ _ (by rw [show tl (Str.ofString ".") = [46] from tl_DOT]; simp) (kind_ok (by decide +kernel)), e3, repAll3]
        show spl (tl DOT) 0 [] _ = _
        rw [tl_DOT]
        rfl
/-! ### _law_sized -/
def sp_sized : Sp := fun vs H Q _ => ∃ (t : Str) (n : Nat), vs = [.str t, .int (n : Int)] ∧ t.length ≤ n ∧ n ≤ 1000 ∧ Sn t ∧ ∀ z : Str, z.length = n → Sn z → Q (.str z) H
abbrev s_law_sized : Stmt := topS 27
theorem sc_law_sized : FnScope ["text", "size", "letters"] ["text", "size"] (defScope s_law_sized) := ⟨rfl, rfl, rfl, by decide +kernel, rfl, by decide +kernel, by decide +kernel⟩
theorem ok_law_sized {f : Addr} {fd : FuncData} (F : Fun K "_law_sized" "_law_sized" s_law_sized f fd) (T : Txt mg) : FnOk P w K mg base CX0 1 f fd ["text", "size"] sp_sized := by
  refine F.ok sc_law_sized (fun vs H Q E h => ?_) (fun cdv A outer s0 H vs Q E hr h => ?_)
  · obtain ⟨t, n, rfl, _⟩ := h
    rfl
  · obtain ⟨t, n, rfl, ht, hn, hs, k⟩ := h
    refine ⟨_, (pss_cons (ps_set (i := 2) sc_law_sized.nd rfl (Or.inl rfl) (pe_op op_repStr pe_str (pv 1)))
 (pss_one (ps_ret (pe_op op_add_str (pe_slice sl_str (pv 2) po_none (po_some (pe_callB (call_max2 rfl) (by rfl) T.b_max (by decide +kernel) (pa_cons (pe_op op_sub (pv 1) (pe_callB call_len_str (by rfl) T.b_len (by decide +kernel) (pa_cons (pv 0) pa_nil))) (pa_cons pe_int pa_nil))))) (pv 0))))), ?_⟩
    obtain ⟨q1, q2⟩ := q7_rep n
    refine ⟨_, rfl, _, n, rfl, rfl, by decide +kernel, hn, ?_⟩
    refine ⟨_, rfl, _, rfl, _, rfl, t, rfl, small5 (by omega), _, _, rfl, rfl, _, _, rfl, ?_⟩
    have hm : (if (0 : Int) > (n : Int) - (t.length : Int) then (0 : Int) else (n : Int) - (t.length : Int)) = ((n - t.length : Nat) : Int) := by
      split <;> omega
    refine ⟨_, rfl, _, rfl, by rw [q2]; exact small5 (by omega), _, rfl, _, _, rfl, rfl, ?_, ?_⟩
    · rw [hm, cut_pre_len _ (by omega), q2]
      exact small5 (by omega)
    · refine k _ ?_ ((q1.cut _ _).app hs)
      rw [len_app, hm, cut_pre_len _ (by omega), q2]
      omega
end
end N1
set_option Elab.async false
set_option linter.all false
set_option maxRecDepth 100000
namespace N1
open PySem PySem.Spec PyProof.Rows L2 TL
theorem sn_dot : Sn (Str.ofString ".") ∧ (Str.ofString ".").length = 1 := by unfold Sn; decide +kernel
theorem sn_op : Sn (Str.ofString "(") ∧ (Str.ofString "(").length = 1 := by unfold Sn; decide +kernel
theorem sn_cl : Sn (Str.ofString ")") ∧ (Str.ofString ")").length = 1 := by unfold Sn; decide +kernel
theorem sn_co : Sn (Str.ofString ",") ∧ (Str.ofString ",").length = 1 := by unfold Sn; decide +kernel
/-- signs alone, at most n -/
def SnL (n : Nat) (z : Str) : Prop := Sn z ∧ z.length ≤ n
theorem SnL.app {m n : Nat} {x y : Str} (h1 : SnL m x) (h2 : SnL n y) : SnL (m + n) (x ++ y) := ⟨h1.1.app h2.1, by rw [len_app]; have := h1.2; have := h2.2; omega⟩
theorem SnL.mono {m n : Nat} {x : Str} (h1 : SnL m x) (h : m ≤ n) : SnL n x := ⟨h1.1, Nat.le_trans h1.2 h⟩
theorem SnL.fit {m n : Nat} {x y : Str} (h1 : SnL m x) (h2 : SnL n y) (h : m + n ≤ 100000) : x.length + y.length ≤ sizeLine := small5 (by have := h1.2; have := h2.2; omega)
theorem l_dot : SnL 1 (Str.ofString ".") := ⟨sn_dot.1, by rw [sn_dot.2]; exact Nat.le_refl _⟩
theorem l_op : SnL 1 (Str.ofString "(") := ⟨sn_op.1, by rw [sn_op.2]; exact Nat.le_refl _⟩
theorem l_cl : SnL 1 (Str.ofString ")") := ⟨sn_cl.1, by rw [sn_cl.2]; exact Nat.le_refl _⟩
theorem l_co : SnL 1 (Str.ofString ",") := ⟨sn_co.1, by rw [sn_co.2]; exact Nat.le_refl _⟩
/-- the pool at q -/
def Pool (H : Hp) (q : Addr) (ps : List Str) : Prop := H q = some (.lst (ps.map V.str)) ∧ (∀ p ∈ ps, Al p ∧ p.length ≤ 20) ∧ 1 ≤ ps.length ∧ ps.length ≤ 1000
theorem pick_at {ps : List Str} {r : Int} (h0 : 0 ≤ r) (h1 : r < (((ps.map V.str).length : Nat) : Int)) : ∃ p, p ∈ ps ∧ atI (ps.map V.str) r = some (V.str p) := by
  rw [List.length_map] at h1
  have hj : r.toNat < ps.length := by omega
  exact ⟨ps[r.toNat], List.getElem_mem hj, at_of (j := r.toNat) (by omega) (by rw [List.getElem?_map, List.getElem?_eq_getElem hj]; rfl)⟩
section
variable {P : Program} {w : World} {K : PySem.W.Frag} {mg : Str → Option Value} {base : Heap}
/-! ### _law_expression -/
def sp_expr : Sp := fun vs H Q _ => ∃ (d g s q : Addr) (ps : List Str) (steps most : Int), vs = [.ref d, .ref q, .int steps, .int most] ∧ Dr H d g s ∧ Pool H q ps ∧ q ≠ g ∧ 0 ≤ steps ∧ steps ≤ 1000 ∧ 0 ≤ most ∧ most ≤ 200 ∧
  ∀ (z : Str) H', Sn z → (z.length : Int) ≤ most → Dk d g s H H' → Q (.str z) H'
abbrev s_law_expression : Stmt := topS 16
theorem sc_law_expression : FnScope ["draws", "pool", "steps", "most", "text", "k", "word", "other", "way", "longer"] ["draws", "pool", "steps", "most"] (defScope s_law_expression) := ⟨rfl, rfl, rfl, by decide +kernel, rfl, by decide +kernel, by decide +kernel⟩
theorem ok_law_expression {f : Addr} {fd : FuncData} (F : Fun K "_law_expression" "_law_expression" s_law_expression f fd) (T : Txt mg) (D_law_pick : Df P w K mg base 1 "_law_pick" ["draws", "many"] sp_pick) :
    FnOk P w K mg base CX0 2 f fd ["draws", "pool", "steps", "most"] sp_expr := by
  refine F.ok sc_law_expression (fun vs H Q E h => ?_) (fun cdv A outer s0 H vs Q E hr h => ?_)
  · obtain ⟨d, g, s, q, ps, m, fw, rfl, _⟩ := h
    rfl
  · obtain ⟨d, g, s, q, ps, steps, most, rfl, dr, ⟨hq, hps, hp1, hp2⟩, nqg, st0, st1, mo0, mo1, k⟩ := h
    have nqd : q ≠ d := by
      obtain ⟨gs, ss, c, h1, h2, h3, r⟩ := id dr
      exact ne_of hq h1 (by intro z; cases z)
    have al : ∀ p ∈ ps, SnL 20 p := fun p hp => ⟨(hps p hp).1.sn, (hps p hp).2⟩
    have hlp : (ps.map V.str).length = ps.length := List.length_map _
    refine ⟨_, (pss_cons (ps_set (i := 4) sc_law_expression.nd rfl (Or.inl rfl) (pe_slice sl_str (pe_ix ix_list (pv 1) (pe_d D_law_pick hr rfl (pa_cons (pv 0) (pa_cons (pe_callB call_len_seq (by rfl) T.b_len (by decide +kernel) (pa_cons (pv 1) pa_nil)) pa_nil))) (fun _ _ => rfl)) po_none (po_some (pv 3))))
 (pss_cons (ps_for PassesOwn.never rfl (pi_range1 (by rfl) T.b_range (pa_cons (pv 2) pa_nil)) (pg_name (i := 5) sc_law_expression.nd rfl (Or.inl rfl))
 (pss_cons (ps_set (i := 6) sc_law_expression.nd rfl (Or.inl rfl) (pe_ix ix_list (pv 1) (pe_d D_law_pick hr rfl (pa_cons (pv 0) (pa_cons (pe_callB call_len_seq (by rfl) T.b_len (by decide +kernel) (pa_cons (pv 1) pa_nil)) pa_nil))) (fun _ _ => rfl)))
 (pss_cons (ps_set (i := 7) sc_law_expression.nd rfl (Or.inl rfl) (pe_ix ix_list (pv 1) (pe_d D_law_pick hr rfl (pa_cons (pv 0) (pa_cons (pe_callB call_len_seq (by rfl) T.b_len (by decide +kernel) (pa_cons (pv 1) pa_nil)) pa_nil))) (fun _ _ => rfl)))
 (pss_cons (ps_set (i := 8) sc_law_expression.nd rfl (Or.inl rfl) (pe_d D_law_pick hr rfl (pa_cons (pv 0) (pa_cons pe_int pa_nil))))
 (pss_cons (ps_set (i := 9) sc_law_expression.nd rfl (Or.inl rfl) (pe_op op_add_str (pe_op op_add_str (pv 4) pe_str) (pv 6)))
 (pss_cut (ps_if (pt_cmpR op_eq (pv 8) pe_int (nomark _))
 (pss_one (ps_set (i := 9) sc_law_expression.nd rfl (Or.inl rfl) (pe_op op_add_str (pe_op op_add_str (pe_op op_add_str (pv 6) pe_str) (pv 4)) pe_str)))
 (pss_one (ps_if (pt_cmpR op_eq (pv 8) pe_int (nomark _))
 (pss_one (ps_set (i := 9) sc_law_expression.nd rfl (Or.inl rfl) (pe_op op_add_str (pe_op op_add_str (pe_op op_add_str (pe_op op_add_str (pe_op op_add_str (pv 6) pe_str) (pv 4)) pe_str) (pv 7)) pe_str)))
 (pss_one (ps_if (pt_cmpR op_eq (pv 8) pe_int (nomark _))
 (pss_one (ps_set (i := 9) sc_law_expression.nd rfl (Or.inl rfl) (pe_op op_add_str (pe_op op_add_str (pe_op op_add_str (pe_op op_add_str (pe_op op_add_str (pv 6) pe_str) (pv 7)) pe_str) (pv 4)) pe_str)))
 (pss_one (ps_if (pt_cmpR op_eq (pv 8) pe_int (nomark _))
 (pss_one (ps_set (i := 9) sc_law_expression.nd rfl (Or.inl rfl) (pe_op op_add_str (pe_op op_add_str (pe_op op_add_str (pe_op op_add_str (pe_op op_add_str (pv 4) pe_str) (pv 6)) pe_str) (pv 7)) pe_str)))
 (pss_one (ps_if (pt_cmpR op_eq (pv 8) pe_int (nomark _))
 (pss_one (ps_set (i := 9) sc_law_expression.nd rfl (Or.inl rfl) (pe_op op_add_str (pe_op op_add_str (pe_op op_add_str (pe_op op_add_str (pe_op op_add_str (pv 7) pe_str) (pv 6)) pe_str) (pv 4)) pe_str)))
 pss_nil)))))))))
 (pss_one (ps_if (pt_cmpR op_le (pe_callB call_len_str (by rfl) T.b_len (by decide +kernel) (pa_cons (pv 9) pa_nil)) (pv 3) (nomark _))
 (pss_one (ps_set (i := 4) sc_law_expression.nd rfl (Or.inl rfl) (pv 9)))
 pss_nil))))))))
 (pss_one (ps_ret (pv 4))))), ?_⟩
    refine ⟨_, rfl, _, rfl, _, rfl, q, _, rfl, .inl (SqL.of hq), d, g, s, _, rfl, dr, by omega, by omega, fun r H1 r0 r1 k1 => ?_⟩
    obtain ⟨p0, hp0, at0⟩ := pick_at r0 r1
    have hq1 := k1.at_ hq nqd nqg
    refine ⟨q, _, r, .str p0, rfl, rfl, SqL.of hq1, at0, _, rfl, _, rfl, p0, rfl, small5 (by have := (al p0 hp0).2; omega), ?_⟩
    refine ⟨_, rfl, _, rfl, by omega, by omega, for_it walk_range (fun i σ H2 => ∃ (tx : Str) (v5 v6 v7 v8 v9 : Option V), σ = [some (.ref d), some (.ref q), some (.int steps), some (.int most), some (.str tx), v5, v6, v7, v8, v9] ∧ Dk d g s H H2 ∧ Sn tx ∧ (tx.length : Int) ≤ most) ?_ (fun _ _ _ _ _ => trivial) ?_ ?_⟩
    · refine ⟨_, none, none, none, none, none, rfl, k1, (al p0 hp0).1.cut _ _, ?_⟩
      rw [cut_pre_len _ mo0]
      omega
    · rintro i x σ H2 H3 hi ⟨tx, v5, v6, v7, v8, v9, rfl, k2, sn, ln⟩ ⟨rfl, rfl⟩
      have hq2 := k2.at_ hq nqd nqg
      refine ⟨_, rfl, _, rfl, _, rfl, q, _, rfl, .inl (SqL.of hq2), d, g, s, _, rfl, k2.dr, by omega, by omega, fun ra H4 ra0 ra1 k4 => ?_⟩
      obtain ⟨wd, hwd, atw⟩ := pick_at ra0 ra1
      have k4 := k2.trans k4
      have hq4 := k4.at_ hq nqd nqg
      refine ⟨q, _, ra, .str wd, rfl, rfl, SqL.of hq4, atw, ?_⟩
      refine ⟨_, rfl, _, rfl, _, rfl, q, _, rfl, .inl (SqL.of hq4), d, g, s, _, rfl, k4.dr, by omega, by omega, fun rb H5 rb0 rb1 k5 => ?_⟩
      obtain ⟨ot, hot, ato⟩ := pick_at rb0 rb1
      have k5 := k4.trans k5
      have hq5 := k5.at_ hq nqd nqg
      refine ⟨q, _, rb, .str ot, rfl, rfl, SqL.of hq5, ato, ?_⟩
      refine ⟨_, rfl, d, g, s, 6, rfl, k5.dr, by decide, by decide, fun wy H6 wy0 wy1 k6 => ?_⟩
      have k6 := k5.trans k6
      have lt : SnL 200 tx := ⟨sn, by omega⟩
      have lw := al wd hwd
      have lo := al ot hot
      refine ⟨_, rfl, _, _, rfl, rfl, lt.fit l_dot (by decide), _, rfl, _, _, rfl, rfl, (lt.app l_dot).fit lw (by decide), ?_⟩
      refine ⟨fun σ' H' => H' = H6 ∧ ∃ lg : Str, SnL 1000 lg ∧ σ' = [some (.ref d), some (.ref q), some (.int steps), some (.int most), some (.str tx), some (.int (0 + (i : Int))), some (.str wd), some (.str ot), some (.int wy), some (.str lg)], ?_, ?_⟩
      · refine ⟨_, rfl, rfl, _, rfl, ite2 (fun _ => ?_) (fun _ => ?_)⟩
        · refine ⟨_, rfl, _, _, rfl, rfl, lw.fit l_op (by decide), _, rfl, _, _, rfl, rfl, (lw.app l_op).fit lt (by decide), _, _, rfl, rfl, ((lw.app l_op).app lt).fit l_cl (by decide), rfl, _, (((lw.app l_op).app lt).app l_cl).mono (by decide), rfl⟩
        refine ⟨_, rfl, rfl, _, rfl, ite2 (fun _ => ?_) (fun _ => ?_)⟩
        · refine ⟨_, rfl, _, _, rfl, rfl, lw.fit l_op (by decide), _, rfl, _, _, rfl, rfl, (lw.app l_op).fit lt (by decide), _, _, rfl, rfl, ((lw.app l_op).app lt).fit l_co (by decide), _, rfl, _, _, rfl, rfl, (((lw.app l_op).app lt).app l_co).fit lo (by decide), _, _, rfl, rfl, ((((lw.app l_op).app lt).app l_co).app lo).fit l_cl (by decide), rfl, _, (((((lw.app l_op).app lt).app l_co).app lo).app l_cl).mono (by decide), rfl⟩
        refine ⟨_, rfl, rfl, _, rfl, ite2 (fun _ => ?_) (fun _ => ?_)⟩
        · refine ⟨_, rfl, _, _, rfl, rfl, lw.fit l_op (by decide), _, rfl, _, _, rfl, rfl, (lw.app l_op).fit lo (by decide), _, _, rfl, rfl, ((lw.app l_op).app lo).fit l_co (by decide), _, rfl, _, _, rfl, rfl, (((lw.app l_op).app lo).app l_co).fit lt (by decide), _, _, rfl, rfl, ((((lw.app l_op).app lo).app l_co).app lt).fit l_cl (by decide), rfl, _, (((((lw.app l_op).app lo).app l_co).app lt).app l_cl).mono (by decide), rfl⟩
        refine ⟨_, rfl, rfl, _, rfl, ite2 (fun _ => ?_) (fun _ => ?_)⟩
        · refine ⟨_, rfl, _, _, rfl, rfl, lt.fit l_dot (by decide), _, rfl, _, _, rfl, rfl, (lt.app l_dot).fit lw (by decide), _, _, rfl, rfl, ((lt.app l_dot).app lw).fit l_op (by decide), _, rfl, _, _, rfl, rfl, (((lt.app l_dot).app lw).app l_op).fit lo (by decide), _, _, rfl, rfl, ((((lt.app l_dot).app lw).app l_op).app lo).fit l_cl (by decide), rfl, _, (((((lt.app l_dot).app lw).app l_op).app lo).app l_cl).mono (by decide), rfl⟩
        refine ⟨_, rfl, rfl, _, rfl, ite2 (fun _ => ?_) (fun _ => ?_)⟩
        · refine ⟨_, rfl, _, _, rfl, rfl, lo.fit l_dot (by decide), _, rfl, _, _, rfl, rfl, (lo.app l_dot).fit lw (by decide), _, _, rfl, rfl, ((lo.app l_dot).app lw).fit l_op (by decide), _, rfl, _, _, rfl, rfl, (((lo.app l_dot).app lw).app l_op).fit lt (by decide), _, _, rfl, rfl, ((((lo.app l_dot).app lw).app l_op).app lt).fit l_cl (by decide), rfl, _, (((((lo.app l_dot).app lw).app l_op).app lt).app l_cl).mono (by decide), rfl⟩
        · exact ⟨rfl, _, ((lt.app l_dot).app lw).mono (by decide), rfl⟩
      · rintro σ' H' ⟨rfl, lg, hlg, rfl⟩
        refine ⟨_, rfl, lg, rfl, small5 (by have := hlg.2; omega), _, rfl, _, _, rfl, rfl, _, rfl, ite2 (fun hb => ?_) (fun hb => ?_)⟩
        · exact ⟨_, rfl, lg, _, _, _, _, _, rfl, k6, hlg.1, of_decide_eq_true hb⟩
        · exact ⟨tx, _, _, _, _, _, rfl, k6, sn, ln⟩
    · rintro σ H2 ⟨tx, v5, v6, v7, v8, v9, rfl, k2, sn, ln⟩
      exact ⟨_, rfl, k tx H2 sn ln k2⟩
end
end N1
set_option Elab.async false
set_option linter.all false
set_option maxRecDepth 100000
namespace N1
open PySem PySem.Spec PyProof.Rows L2 TL
/-- letters and figures, at most n -/
def AlL (n : Nat) (z : Str) : Prop := Al z ∧ z.length ≤ n
theorem AlL.app {m n : Nat} {x y : Str} (h1 : AlL m x) (h2 : AlL n y) : AlL (m + n) (x ++ y) := ⟨h1.1.app h2.1, by rw [len_app]; have := h1.2; have := h2.2; omega⟩
theorem AlL.mono {m n : Nat} {x : Str} (h1 : AlL m x) (h : m ≤ n) : AlL n x := ⟨h1.1, Nat.le_trans h1.2 h⟩
theorem AlL.fit {m n : Nat} {x y : Str} (h1 : AlL m x) (h2 : AlL n y) (h : m + n ≤ 100000) : x.length + y.length ≤ sizeLine := small5 (by have := h1.2; have := h2.2; omega)
theorem AlL.cut {n : Nat} {x : Str} (h : AlL n x) (lo hi : Option Int) : AlL n (cutS x lo hi) := ⟨h.1.cut lo hi, Nat.le_trans (cutS_length x lo hi) h.2⟩
theorem AlL.sz {n : Nat} {x : Str} (h : AlL n x) (hn : n ≤ 100000) : x.length ≤ sizeLine := small5 (Nat.le_trans h.2 hn)
theorem AlL.sg {c : Nat} (h : alnum c = true) : AlL 1 (sg c) := ⟨fun x hx => by
  have : x = c := by simpa [tl] using hx
  rw [this]; exact h, Nat.le_refl _⟩
theorem AlL.at_ {n : Nat} {x : Str} (h : AlL n x) {j : Nat} (hj : j < x.length) : ∃ c, alnum c = true ∧ (tl x)[j]? = some c := by
  have hj' : j < (tl x).length := by rw [← len_tl]; exact hj
  exact ⟨(tl x)[j], h.1 _ (List.getElem_mem hj'), List.getElem?_eq_getElem hj'⟩
section
variable {P : Program} {w : World} {K : PySem.W.Frag} {mg : Str → Option Value} {base : Heap}
/-! ### _law_pool -/
def sp_pool : Sp := fun vs H Q _ => ∃ (d g s : Addr) (wd : Str), vs = [.ref d, .str wd] ∧ Dr H d g s ∧ AlL 8 wd ∧ 1 ≤ wd.length ∧
  ∀ (p : Addr) (ps : List Str) H', H p = none → Pool H' p ps → 6 ≤ ps.length → ps.length ≤ 20 → Dk d g s H H' → Q (.ref p) H'
abbrev s_law_pool : Stmt := topS 15
theorem sc_law_pool : FnScope ["draws", "word", "letters", "sign", "place", "pool"] ["draws", "word"] (defScope s_law_pool) := ⟨rfl, rfl, rfl, by decide +kernel, rfl, by decide +kernel, by decide +kernel⟩
theorem ok_law_pool {f : Addr} {fd : FuncData} (F : Fun K "_law_pool" "_law_pool" s_law_pool f fd) (T : Txt mg) (D_law_letters : Df P w K mg base 1 "_law_letters" [] sp_letters) (D_law_pick : Df P w K mg base 1 "_law_pick" ["draws", "many"] sp_pick)
    (D_law_word : Df P w K mg base 2 "_law_word" ["draws", "most", "few"] sp_word) : FnOk P w K mg base CX0 3 f fd ["draws", "word"] sp_pool := by
  refine F.ok sc_law_pool (fun vs H Q E h => ?_) (fun cdv A outer s0 H vs Q E hr h => ?_)
  · obtain ⟨d, g, s, wd, rfl, _⟩ := h
    rfl
  · obtain ⟨d, g, s, wd, rfl, dr, hw, hw1, k⟩ := h
    have hw8 := hw.2
    have sw := hw.sz (by decide)
    refine ⟨_, (pss_cons (ps_set (i := 2) sc_law_pool.nd rfl (Or.inl rfl) (pe_d0 D_law_letters (hr.mono (by decide)) rfl))
 (pss_cons (ps_set (i := 3) sc_law_pool.nd rfl (Or.inl rfl) (pe_ix ix_str (pv 2) (pe_d D_law_pick (hr.mono (by decide)) rfl (pa_cons (pv 0) (pa_cons pe_int pa_nil))) (fun _ _ => rfl)))
 (pss_cons (ps_set (i := 4) sc_law_pool.nd rfl (Or.inl rfl) (pe_d D_law_pick (hr.mono (by decide)) rfl (pa_cons (pv 0) (pa_cons (pe_callB call_len_str (by rfl) T.b_len (by decide +kernel) (pa_cons (pv 1) pa_nil)) pa_nil))))
 (pss_cons (ps_set (i := 5) sc_law_pool.nd rfl (Or.inl rfl) (pe_lst (pa_cons (pv 1) (pa_cons (pe_op op_add_str (pv 1) (pv 3)) (pa_cons (pe_op op_add_str (pv 3) (pv 1)) (pa_cons (pe_op op_add_str (pv 1) (pv 1)) (pa_cons (pe_op op_add_str (pe_op op_add_str (pe_slice sl_str (pv 1) po_none (po_some (pv 4))) (pv 3)) (pe_slice sl_str (pv 1) (po_some (pv 4)) po_none)) (pa_cons (pe_op op_add_str (pe_op op_add_str (pe_slice sl_str (pv 1) po_none (po_some (pv 4))) (pv 3)) (pe_slice sl_str (pv 1) (po_some (pe_op op_add (pv 4) pe_int)) po_none)) pa_nil))))))))
 (pss_cons (ps_expr (pe_bm PySem.F.plainAttrs_list PySem.F.slot_list_extend PySem.F.type_list_extend mt_extend (pv 5) (pa_cons (pe_lst (pa_cons (pe_d D_law_word hr rfl (pa_cons (pv 0) (pa_cons pe_int (pa_cons pe_int pa_nil)))) (pa_cons (pe_ix ix_str (pv 1) pe_int (fun _ _ => rfl)) (pa_cons (pe_ix ix_str (pv 1) (pe_op op_sub (pe_callB call_len_str (by rfl) T.b_len (by decide +kernel) (pa_cons (pv 1) pa_nil)) pe_int) (fun _ _ => rfl)) (pa_cons (pe_d D_law_word hr rfl (pa_cons (pv 0) (pa_cons pe_int (pa_cons pe_int pa_nil)))) pa_nil))))) pa_nil)))
 (pss_cut (ps_if (pt_cmpR op_gt (pe_callB call_len_str (by rfl) T.b_len (by decide +kernel) (pa_cons (pv 1) pa_nil)) pe_int (nomark _))
 (pss_cons (ps_expr (pe_bm PySem.F.plainAttrs_list PySem.F.slot_list_append PySem.F.type_list_append mt_append (pv 5) (pa_cons (pe_slice sl_str (pv 1) (po_some pe_int) po_none) pa_nil)))
 (pss_cons (ps_expr (pe_bm PySem.F.plainAttrs_list PySem.F.slot_list_append PySem.F.type_list_append mt_append (pv 5) (pa_cons (pe_slice sl_str (pv 1) po_none (po_some (pe_op op_sub (pe_callB call_len_str (by rfl) T.b_len (by decide +kernel) (pa_cons (pv 1) pa_nil)) pe_int))) pa_nil)))
 (pss_one (ps_expr (pe_bm PySem.F.plainAttrs_list PySem.F.slot_list_append PySem.F.type_list_append mt_append (pv 5) (pa_cons (pe_op op_add_str (pe_slice sl_str (pv 1) po_none (po_some (pv 4))) (pe_slice sl_str (pv 1) (po_some (pe_op op_add (pv 4) pe_int)) po_none)) pa_nil))))))
 pss_nil)
 (pss_one (ps_ret (pv 5))))))))), ?_⟩
    refine ⟨rfl, _, rfl, _, rfl, d, g, s, 36, rfl, dr, by decide, by decide, fun r H1 r0 r1 k1 => ?_⟩
    have hj : r.toNat < lets.length := by show _ < 36; omega
    have hal := lets_alnum _ (List.getElem_mem hj)
    refine ⟨LET, _, lets[r.toNat], rfl, rfl, by decide +kernel, at_any (j := r.toNat) (by omega) (by rw [show LET.cps.toList = lets from tl_LET]; exact List.getElem?_eq_getElem hj), ?_⟩
    generalize lets[r.toNat] = c at *
    have hs := AlL.sg hal
    refine ⟨_, rfl, _, rfl, wd, rfl, sw, d, g, s, _, rfl, k1.dr, by omega, by omega, fun pl H2 pl0 pl1 k2 => ?_⟩
    have k2 := k1.trans k2
    refine ⟨_, rfl, _, rfl, _, rfl, _, _, rfl, rfl, hw.fit hs (by decide), _, rfl, _, rfl, _, _, rfl, rfl, hs.fit hw (by decide), _, rfl, _, rfl, _, _, rfl, rfl, hw.fit hw (by decide), ?_⟩
    have sl := (hw.cut none (some pl)).fit hs (by decide)
    have sl2 := ((hw.cut none (some pl)).app hs).fit (hw.cut (some pl) none) (by decide)
    have sl3 := ((hw.cut none (some pl)).app hs).fit (hw.cut (some (pl + 1)) none) (by decide)
    refine ⟨_, rfl, _, rfl, _, rfl, wd, rfl, sw, _, rfl, _, _, rfl, rfl, sl, _, rfl, _, rfl, _, rfl, wd, rfl, sw, _, _, rfl, rfl, sl2, ?_⟩
    refine ⟨_, rfl, _, rfl, _, rfl, wd, rfl, sw, _, rfl, _, _, rfl, rfl, sl, _, rfl, _, rfl, _, _, rfl, rfl, _, rfl, wd, rfl, sw, _, _, rfl, rfl, sl3, ?_⟩
    refine ⟨small5 (by simp), fun p hp => ?_⟩
    obtain ⟨npd, npg, nps⟩ := k2.dr.ne hp
    have hp0 := k2.none_of hp
    have k3 : Dk d g s H (upd H2 p (.lst ([wd, wd ++ sg c, sg c ++ wd, wd ++ wd, cutS wd none (some pl) ++ sg c ++ cutS wd (some pl) none, cutS wd none (some pl) ++ sg c ++ cutS wd (some (pl + 1)) none].map V.str))) := k2.put dr hp0 (fun xs z => by rw [hp] at z; cases z)
    have hb1 : ∀ x ∈ [wd, wd ++ sg c, sg c ++ wd, wd ++ wd, cutS wd none (some pl) ++ sg c ++ cutS wd (some pl) none, cutS wd none (some pl) ++ sg c ++ cutS wd (some (pl + 1)) none], AlL 20 x := by
      simp only [List.mem_cons, List.not_mem_nil, or_false]
      rintro x (rfl | rfl | rfl | rfl | rfl | rfl)
      · exact hw.mono (by decide)
      · exact (hw.app hs).mono (by decide)
      · exact (hs.app hw).mono (by decide)
      · exact (hw.app hw).mono (by decide)
      · exact (((hw.cut _ _).app hs).app (hw.cut _ _)).mono (by decide)
      · exact (((hw.cut _ _).app hs).app (hw.cut _ _)).mono (by decide)
    have hx3 : upd H2 p (.lst ([wd, wd ++ sg c, sg c ++ wd, wd ++ wd, cutS wd none (some pl) ++ sg c ++ cutS wd (some pl) none, cutS wd none (some pl) ++ sg c ++ cutS wd (some (pl + 1)) none].map V.str)) p = _ := upd_same
    have hl1 : ([wd, wd ++ sg c, sg c ++ wd, wd ++ wd, cutS wd none (some pl) ++ sg c ++ cutS wd (some pl) none, cutS wd none (some pl) ++ sg c ++ cutS wd (some (pl + 1)) none] : List Str).length = 6 := rfl
    show gName 5 _ _ (upd H2 p (.lst ([wd, wd ++ sg c, sg c ++ wd, wd ++ wd, cutS wd none (some pl) ++ sg c ++ cutS wd (some pl) none, cutS wd none (some pl) ++ sg c ++ cutS wd (some (pl + 1)) none].map V.str))) _
    generalize ([wd, wd ++ sg c, sg c ++ wd, wd ++ wd, cutS wd none (some pl) ++ sg c ++ cutS wd (some pl) none, cutS wd none (some pl) ++ sg c ++ cutS wd (some (pl + 1)) none] : List Str) = ps1 at *
    generalize upd H2 p (.lst (ps1.map V.str)) = H3 at *
    refine ⟨_, rfl, .inl ⟨rfl, _, SqL.of hx3⟩, _, rfl, d, g, s, 4, 2, rfl, k3.dr, by decide, by decide, by decide, by decide, fun za H4 al1 al2 al3 kA => ?_⟩
    have k4 := k3.trans kA
    obtain ⟨c0, hc0, at0⟩ := hw.at_ (j := 0) (by omega)
    obtain ⟨c1, hc1, at1⟩ := hw.at_ (j := wd.length - 1) (by omega)
    refine ⟨_, rfl, wd, 0, c0, rfl, rfl, sw, at_any (j := 0) rfl at0, ?_⟩
    refine ⟨_, rfl, _, rfl, wd, rfl, sw, _, _, rfl, rfl, wd, _, c1, rfl, rfl, sw, at_any (j := wd.length - 1) (by omega) at1, ?_⟩
    refine ⟨_, rfl, d, g, s, 8, 36, rfl, k4.dr, by decide, by decide, by decide, by decide, fun zb H5 bl1 bl2 bl3 kB => ?_⟩
    have k5 := k4.trans kB
    refine ⟨small5 (by simp), fun q hq => ?_⟩
    have k6 : Dk d g s H (upd H5 q (.lst ([za, sg c0, sg c1, zb].map V.str))) := k5.put dr (k5.none_of hq) (fun xs z => by rw [hq] at z; cases z)
    have hx5 := (kA.trans kB).at_ hx3 npd npg
    have hx6 : upd H5 q (.lst ([za, sg c0, sg c1, zb].map V.str)) p = some (.lst (ps1.map V.str)) := (upd_ne (ne_of_none hx5 hq)).trans hx5
    refine ⟨p, q, _, [za, sg c0, sg c1, zb].map V.str, rfl, rfl, hx6, upd_same, small5 (by simp [hl1]), ?_⟩
    rw [← List.map_append]
    have hb2 : ∀ x ∈ ps1 ++ [za, sg c0, sg c1, zb], AlL 20 x := by
      intro x hx
      rcases List.mem_append.mp hx with h | h
      · exact hb1 x h
      simp only [List.mem_cons, List.not_mem_nil, or_false] at h
      rcases h with rfl | rfl | rfl | rfl
      · exact ⟨al1, by omega⟩
      · exact (AlL.sg hc0).mono (by decide)
      · exact (AlL.sg hc1).mono (by decide)
      · exact ⟨bl1, by omega⟩
    have hl2 : (ps1 ++ [za, sg c0, sg c1, zb]).length = 10 := by simp [hl1]
    generalize ps1 ++ [za, sg c0, sg c1, zb] = ps2 at *
    have k7 := k6.lst (zs := ps2.map V.str) dr hp0 hx6
    have hx7 : upd (upd H5 q (.lst ([za, sg c0, sg c1, zb].map V.str))) p (.lst (ps2.map V.str)) p = _ := upd_same
    refine ⟨fun σ' H' => ∃ ps : List Str, σ' = [some (.ref d), some (.str wd), some (.str LET), some (.str (sg c)), some (.int pl), some (.ref p)] ∧ H' p = some (.lst (ps.map V.str)) ∧ (∀ x ∈ ps, AlL 20 x) ∧ 6 ≤ ps.length ∧ ps.length ≤ 20 ∧ Dk d g s H H', ?_, ?_⟩
    · refine ⟨_, rfl, wd, rfl, sw, _, _, rfl, rfl, _, rfl, ite2 (fun hb => ?_) (fun hb => ?_)⟩
      · have lp : (ps2.map V.str).length = 10 := by rw [List.length_map, hl2]
        refine ⟨_, rfl, .inl ⟨rfl, _, SqL.of hx7⟩, _, rfl, _, rfl, wd, rfl, sw, p, _, _, rfl, rfl, hx7, small5' (by omega), ?_⟩
        rw [show ps2.map V.str ++ [V.str (cutS wd (some 1) none)] = (ps2 ++ [cutS wd (some 1) none]).map V.str by simp]
        have k8 := k7.lst (zs := (ps2 ++ [cutS wd (some 1) none]).map V.str) dr hp0 hx7
        refine ⟨_, rfl, .inl ⟨rfl, _, SqL.of upd_same⟩, _, rfl, _, rfl, wd, rfl, sw, _, _, rfl, rfl, _, rfl, wd, rfl, sw, p, _, _, rfl, rfl, upd_same, small5' (by simp; omega), ?_⟩
        rw [show (ps2 ++ [cutS wd (some 1) none]).map V.str ++ [V.str (cutS wd none (some ((wd.length : Int) - 1)))] = (ps2 ++ [cutS wd (some 1) none] ++ [cutS wd none (some ((wd.length : Int) - 1))]).map V.str by simp]
        have k9 := k8.lst (zs := (ps2 ++ [cutS wd (some 1) none] ++ [cutS wd none (some ((wd.length : Int) - 1))]).map V.str) dr hp0 upd_same
        refine ⟨_, rfl, .inl ⟨rfl, _, SqL.of upd_same⟩, _, rfl, _, rfl, _, rfl, wd, rfl, sw, _, rfl, _, rfl, _, _, rfl, rfl, _, rfl, wd, rfl, sw, _, _, rfl, rfl, (hw.cut _ _).fit (hw.cut _ _) (by decide), p, _, _, rfl, rfl, upd_same, small5' (by simp; omega), ?_⟩
        refine ⟨ps2 ++ [cutS wd (some 1) none] ++ [cutS wd none (some ((wd.length : Int) - 1))] ++ [cutS wd none (some pl) ++ cutS wd (some (pl + 1)) none], rfl, ?_, ?_, by simp; omega, by simp; omega, ?_⟩
        · rw [upd_same]
          simp
        · intro x hx
          simp only [List.mem_append, List.mem_singleton] at hx
          rcases hx with ((h | h) | h) | h
          · exact hb2 x h
          · rw [h]
            exact (hw.cut _ _).mono (by decide)
          · rw [h]
            exact (hw.cut _ _).mono (by decide)
          · rw [h]
            exact ((hw.cut _ _).app (hw.cut _ _)).mono (by decide)
        · exact k9.lst dr hp0 upd_same
      · exact ⟨ps2, rfl, hx7, hb2, by omega, by omega, k7⟩
    · rintro σ' H' ⟨ps, rfl, h1, h2, h3, h4, h5⟩
      exact ⟨_, rfl, k p ps H' hp0 ⟨h1, h2, by omega, by omega⟩ h3 h4 h5⟩
end
end N1
set_option Elab.async false
set_option linter.all false
set_option maxRecDepth 100000
namespace N1
open PySem PySem.Spec PyProof.Rows L2 TL
/-- a list of texts, each at most k long, at most n of them -/
def TxL (H : Hp) (q : Addr) (k n : Nat) : Prop := ∃ ps : List Str, H q = some (.lst (ps.map V.str)) ∧ (∀ x ∈ ps, SnL k x) ∧ ps.length ≤ n
theorem strs_at {ps : List Str} {i : Nat} {x : V} (h : (ps.map V.str)[i]? = some x) : ∃ z, z ∈ ps ∧ x = .str z := by
  rw [List.getElem?_map] at h
  cases e : ps[i]? with
  | none => rw [e] at h; cases h
  | some z => rw [e] at h; exact ⟨z, List.mem_of_getElem? e, (Option.some.inj h).symm⟩
theorem TxL.ext {H : Hp} {q : Addr} {k : Nat} {ps cs : List Str} {n : Nat} (h1 : ∀ x ∈ ps, SnL k x) (h2 : ∀ x ∈ cs, SnL k x) (h3 : ps.length + cs.length ≤ n) : TxL (upd H q (.lst (ps.map V.str ++ cs.map V.str))) q k n :=
  ⟨ps ++ cs, by rw [upd_same, List.map_append], fun x hx => (List.mem_append.mp hx).elim (h1 x) (h2 x), by rw [List.length_append]; exact h3⟩
theorem gen_st {G Gd : Hp → Prop} {H0 : Hp} (h : Gd H0) (h2 : ∀ Hx, Gd Hx → G Hx) : G H0 := h2 _ h
section
variable {P : Program} {w : World} {K : PySem.W.Frag} {mg : Str → Option Value} {base : Heap}
/-! ### _law_all_small -/
def sp_small : Sp := fun vs H Q _ => ∃ (one other : Str), vs = [.str one, .str other] ∧ SnL 1 one ∧ SnL 1 other ∧
  ∀ (p : Addr) H', H p = none → TxL H' p 20 110 → Same H H' → Q (.ref p) H'
abbrev s_law_all_small : Stmt := topS 17
theorem sc_law_all_small : FnScope ["one", "other", "signs", "twos", "sign", "threes", "two", "found", "word", "more"] ["one", "other"] (defScope s_law_all_small) := ⟨rfl, rfl, rfl, by decide +kernel, rfl, by decide +kernel, by decide +kernel⟩
theorem ok_law_all_small {f : Addr} {fd : FuncData} (F : Fun K "_law_all_small" "_law_all_small" s_law_all_small f fd) (T : Txt mg) : FnOk P w K mg base CX0 1 f fd ["one", "other"] sp_small := by
  refine F.ok sc_law_all_small (fun vs H Q E h => ?_) (fun cdv A outer s0 H vs Q E hr h => ?_)
  · obtain ⟨g, s, rfl, _⟩ := h
    rfl
  · obtain ⟨one, other, rfl, l1, l2, k⟩ := h
    refine ⟨_, (pss_cons (ps_set (i := 2) sc_law_all_small.nd rfl (Or.inl rfl) (pe_lst (pa_cons (pv 0) (pa_cons (pv 1) pa_nil))))
 (pss_cons (ps_set (i := 3) sc_law_all_small.nd rfl (Or.inl rfl) (pe_lst pa_nil))
 (pss_cons (ps_for PassesOwn.never rfl (pi_list (pv 2)) (pg_name (i := 4) sc_law_all_small.nd rfl (Or.inr rfl))
 (pss_one (ps_expr (pe_bm PySem.F.plainAttrs_list PySem.F.slot_list_extend PySem.F.type_list_extend mt_extend (pv 3) (pa_cons (pe_lc (own := [("more", 9)]) (g := gName 9) (by rfl) sc_law_all_small.nd (pi_list (pv 2)) (blkOk_by (own := [("more", 9)]) (N := ["one", "other", "signs", "twos", "sign", "threes", "two", "found", "word", "more"]) (sc := defScope s_law_all_small) (by decide +kernel)) (fun _ _ _ _ _ => pg_name (i := 9) sc_law_all_small.nd rfl (Or.inl rfl)) (fun _ _ _ _ _ => pts_nil) (fun _ _ _ _ _ => (pe_op op_add_str (pv 4) (pv 9)))) pa_nil)))))
 (pss_cons (ps_set (i := 5) sc_law_all_small.nd rfl (Or.inl rfl) (pe_lst pa_nil))
 (pss_cons (ps_for PassesOwn.never rfl (pi_list (pv 3)) (pg_name (i := 6) sc_law_all_small.nd rfl (Or.inr rfl))
 (pss_one (ps_expr (pe_bm PySem.F.plainAttrs_list PySem.F.slot_list_extend PySem.F.type_list_extend mt_extend (pv 5) (pa_cons (pe_lc (own := [("more", 9)]) (g := gName 9) (by rfl) sc_law_all_small.nd (pi_list (pv 2)) (blkOk_by (own := [("more", 9)]) (N := ["one", "other", "signs", "twos", "sign", "threes", "two", "found", "word", "more"]) (sc := defScope s_law_all_small) (by decide +kernel)) (fun _ _ _ _ _ => pg_name (i := 9) sc_law_all_small.nd rfl (Or.inl rfl)) (fun _ _ _ _ _ => pts_nil) (fun _ _ _ _ _ => (pe_op op_add_str (pv 6) (pv 9)))) pa_nil)))))
 (pss_cons (ps_set (i := 7) sc_law_all_small.nd rfl (Or.inl rfl) (pe_op op_cat (pe_op op_cat (pv 2) (pv 3)) (pv 5)))
 (pss_cons (ps_for PassesOwn.never rfl (pi_list (pv 2)) (pg_name (i := 4) sc_law_all_small.nd rfl (Or.inr rfl))
 (pss_one (ps_for PassesOwn.never rfl (pi_list (pe_op op_cat (pv 2) (pv 3))) (pg_name (i := 8) sc_law_all_small.nd rfl (Or.inl rfl))
 (pss_cons (ps_expr (pe_bm PySem.F.plainAttrs_list PySem.F.slot_list_extend PySem.F.type_list_extend mt_extend (pv 7) (pa_cons (pe_lst (pa_cons (pe_op op_add_str (pe_op op_add_str (pv 4) pe_str) (pv 8)) (pa_cons (pe_op op_add_str (pe_op op_add_str (pv 8) pe_str) (pv 4)) (pa_cons (pe_op op_add_str (pe_op op_add_str (pe_op op_add_str (pv 4) pe_str) (pv 8)) pe_str) (pa_cons (pe_op op_add_str (pe_op op_add_str (pe_op op_add_str (pv 8) pe_str) (pv 4)) pe_str) pa_nil))))) pa_nil)))
 (pss_cons (ps_expr (pe_bm PySem.F.plainAttrs_list PySem.F.slot_list_extend PySem.F.type_list_extend mt_extend (pv 7) (pa_cons (pe_lst (pa_cons (pe_op op_add_str (pe_op op_add_str (pe_op op_add_str (pe_op op_add_str (pe_op op_add_str (pv 4) pe_str) (pv 8)) pe_str) (pv 0)) pe_str) (pa_cons (pe_op op_add_str (pe_op op_add_str (pe_op op_add_str (pe_op op_add_str (pe_op op_add_str (pv 4) pe_str) (pv 8)) pe_str) (pv 1)) pe_str) pa_nil))) pa_nil)))
 (pss_one (ps_expr (pe_bm PySem.F.plainAttrs_list PySem.F.slot_list_extend PySem.F.type_list_extend mt_extend (pv 7) (pa_cons (pe_lst (pa_cons (pe_op op_add_str (pe_op op_add_str (pe_op op_add_str (pe_op op_add_str (pv 4) pe_str) (pv 0)) pe_str) (pv 8)) (pa_cons (pe_op op_add_str (pe_op op_add_str (pe_op op_add_str (pe_op op_add_str (pe_op op_add_str (pv 0) pe_str) (pv 4)) pe_str) (pv 8)) pe_str) pa_nil))) pa_nil)))))))))
 (pss_one (ps_ret (pv 7)))))))))), ?_⟩
    refine ⟨_, rfl, _, rfl, small5 (by simp), fun p hp => ?_⟩
    have s1 : Same H (upd H p (.lst ([one, other].map V.str))) := Same.new hp
    have hS : ∀ x ∈ [one, other], SnL 1 x := by
      simp only [List.mem_cons, List.not_mem_nil, or_false]
      rintro x (rfl | rfl)
      · exact l1
      · exact l2
    have p1 : upd H p (.lst ([one, other].map V.str)) p = some (.lst ([one, other].map V.str)) := upd_same
    have hsl : ([one, other] : List Str).length = 2 := rfl
    refine ⟨Nat.zero_le _, fun q hq => ?_⟩
    have nqp : p ≠ q := ne_of_none p1 hq
    have hq0 : H q = none := by rw [upd_ne nqp.symm] at hq; exact hq
    have s2 : Same H (upd (upd H p (.lst ([one, other].map V.str))) q (.lst [])) := Same.put s1 hq0
    have p2 : upd (upd H p (.lst ([one, other].map V.str))) q (.lst []) p = some (.lst ([one, other].map V.str)) := (upd_ne nqp).trans p1
    have q2 : TxL (upd (upd H p (.lst ([one, other].map V.str))) q (.lst [])) q 2 0 := ⟨[], upd_same, by simp, Nat.le_refl _⟩
    refine ⟨_, rfl, p, rfl, ⟨_, SqL.of p2⟩, for_it walk_list (fun i σ H1 => ∃ v4 : Option V, σ = [some (.str one), some (.str other), some (.ref p), some (.ref q), v4, none, none, none, none, none] ∧ Same H H1 ∧ H1 p = some (.lst ([one, other].map V.str)) ∧ TxL H1 q 2 (i * 2)) ⟨none, rfl, s2, p2, q2⟩ (fun i σ H1 _ h => by obtain ⟨v4, _, _, h, _⟩ := h; exact SqL.of h) ?_ ?_⟩
    · rintro i x σ H1 H2 hi ⟨v4, rfl, s3, p3, ps, q3, hps, lps⟩ ⟨rfl, hx⟩
      obtain ⟨z, hz, rfl⟩ := strs_at hx
      have lz := hS z hz
      refine ⟨_, rfl, .inl ⟨rfl, _, SqL.of q3⟩, _, rfl, p, rfl, ⟨_, SqL.of p3⟩, fun D hD => ?_⟩
      refine lc_same1 walk_list hD (fun i ds => ∃ cs : List Str, ds = cs.map PyData.str ∧ (∀ c ∈ cs, SnL 2 c) ∧ cs.length = i) ⟨[], rfl, by simp, rfl⟩ (fun H2 s => SqL.of (s _ _ p3)) yat_same (by simp) ?_ ?_
      · rintro j x H3 H4 ds hj s4 s5 ⟨cs, rfl, hcs, lcs⟩ ⟨rfl, hx⟩ K1 kk
        obtain ⟨y, hy, rfl⟩ := strs_at hx
        have ly := hS y hy
        refine ⟨rfl, _, rfl, _, rfl, _, _, rfl, rfl, lz.fit ly (by decide), kk _ _ (.str (z ++ y)) (Same.refl _) (.str _) ⟨cs ++ [z ++ y], by simp, fun c hc => ?_, by simp [lcs]⟩⟩
        rcases List.mem_append.mp hc with h | h
        · exact hcs c h
        · rw [List.mem_singleton.mp h]
          exact lz.app ly
      · rintro H3 ys ds s4 hl hI ⟨cs, rfl, hcs, lcs⟩
        have ey := Ims.strs_of hI
        subst ey
        have lcs : cs.length = 2 := by rw [lcs]; rfl
        have hi2 : i < 2 := hi
        refine ⟨q, D, _, _, rfl, rfl, s4 _ _ q3, hl, small5 (by simp only [List.length_map]; omega), ?_⟩
        exact ⟨_, rfl, Same.put (s3.trans s4) hq0, (upd_ne nqp).trans (s4 _ _ p3), TxL.ext hps hcs (by omega)⟩
    rintro σ H1 ⟨v4, rfl, s3, p3, q3⟩
    have q3 : TxL H1 q 2 4 := q3
    obtain ⟨tw, q3, htw, ltw⟩ := q3
    refine ⟨Nat.zero_le _, fun r hr0 => ?_⟩
    have nrp : p ≠ r := ne_of_none p3 hr0
    have nrq : q ≠ r := ne_of_none q3 hr0
    have hr1 : H r = none := by
      cases e : H r with
      | none => rfl
      | some o => rw [s3 _ _ e] at hr0; cases hr0
    have p4 : upd H1 r (.lst []) p = _ := (upd_ne nrp).trans p3
    have q4 : upd H1 r (.lst []) q = _ := (upd_ne nrq).trans q3
    have r4 : TxL (upd H1 r (.lst [])) r 3 0 := ⟨[], upd_same, by simp, Nat.le_refl _⟩
    have s4 : Same H (upd H1 r (.lst [])) := Same.put s3 hr1
    refine ⟨_, rfl, q, rfl, ⟨_, SqL.of q4⟩, for_it walk_list (fun i σ H1 => ∃ v4 v6 : Option V, σ = [some (.str one), some (.str other), some (.ref p), some (.ref q), v4, some (.ref r), v6, none, none, none] ∧ Same H H1 ∧ H1 p = some (.lst ([one, other].map V.str)) ∧ H1 q = some (.lst (tw.map V.str)) ∧ TxL H1 r 3 (i * 2)) ⟨v4, none, rfl, s4, p4, q4, r4⟩ (fun i σ H1 _ h => by obtain ⟨v4, v6, _, _, _, h, _⟩ := h; exact SqL.of h) ?_ ?_⟩
    · rintro i x σ H1 H2 hi ⟨v4, v6, rfl, s3, p3, q3, ps, r3, hps, lps⟩ ⟨rfl, hx⟩
      obtain ⟨z, hz, rfl⟩ := strs_at hx
      have lz := htw z hz
      refine ⟨_, rfl, .inl ⟨rfl, _, SqL.of r3⟩, _, rfl, p, rfl, ⟨_, SqL.of p3⟩, fun D hD => ?_⟩
      refine lc_same1 walk_list hD (fun i ds => ∃ cs : List Str, ds = cs.map PyData.str ∧ (∀ c ∈ cs, SnL 3 c) ∧ cs.length = i) ⟨[], rfl, by simp, rfl⟩ (fun H2 s => SqL.of (s _ _ p3)) yat_same (by simp) ?_ ?_
      · rintro j x H3 H4 ds hj s4 s5 ⟨cs, rfl, hcs, lcs⟩ ⟨rfl, hx⟩ K1 kk
        obtain ⟨y, hy, rfl⟩ := strs_at hx
        have ly := hS y hy
        refine ⟨rfl, _, rfl, _, rfl, _, _, rfl, rfl, lz.fit ly (by decide), kk _ _ (.str (z ++ y)) (Same.refl _) (.str _) ⟨cs ++ [z ++ y], by simp, fun c hc => ?_, by simp [lcs]⟩⟩
        rcases List.mem_append.mp hc with h | h
        · exact hcs c h
        · rw [List.mem_singleton.mp h]
          exact lz.app ly
      · rintro H3 ys ds s4 hl hI ⟨cs, rfl, hcs, lcs⟩
        have ey := Ims.strs_of hI
        subst ey
        have lcs : cs.length = 2 := by rw [lcs]; rfl
        have hi4 : i < 4 := Nat.lt_of_lt_of_le (by simpa using hi) ltw
        refine ⟨r, D, _, _, rfl, rfl, s4 _ _ r3, hl, small5 (by simp only [List.length_map]; omega), ?_⟩
        exact ⟨_, _, rfl, Same.put (s3.trans s4) hr1, (upd_ne nrp).trans (s4 _ _ p3), (upd_ne nrq).trans (s4 _ _ q3), TxL.ext hps hcs (by omega)⟩
    rintro σ H1 ⟨v4, v6, rfl, s3, p3, q3, th, r3, hth, lth⟩
    have lth : th.length ≤ 8 := by simp only [List.length_map] at lth; omega
    refine ⟨_, rfl, _, rfl, p, q, _, _, rfl, rfl, p3, q3, small5 (by simp only [List.length_map]; rw [hsl]; omega), fun a ha => ?_⟩
    refine ⟨_, rfl, a, r, _, _, rfl, rfl, upd_same, (upd_ne (ne_of_none r3 ha)).trans r3, small5 (by simp only [List.length_append, List.length_map]; rw [hsl]; omega), fun e he => ?_⟩
    have nep : p ≠ e := fun h => by rw [← h, upd_ne (ne_of_none p3 ha), p3] at he; cases he
    have neq : q ≠ e := fun h => by rw [← h, upd_ne (ne_of_none q3 ha), q3] at he; cases he
    have he1 : H e = none := by
      cases x : H e with
      | none => rfl
      | some o =>
        have := s3 _ _ x
        rw [upd_ne (ne_of_none this ha), this] at he
        cases he
    have s5 : Same H (upd (upd H1 a (.lst ([one, other].map V.str ++ tw.map V.str))) e (.lst ([one, other].map V.str ++ tw.map V.str ++ th.map V.str))) := by
      refine Same.put (Same.put s3 ?_) he1
      cases x : H a with
      | none => rfl
      | some o => rw [s3 _ _ x] at ha; cases ha
    have p5 : upd (upd H1 a (.lst ([one, other].map V.str ++ tw.map V.str))) e (.lst ([one, other].map V.str ++ tw.map V.str ++ th.map V.str)) p = _ := (upd_ne nep).trans ((upd_ne (ne_of_none p3 ha)).trans p3)
    have q5 : upd (upd H1 a (.lst ([one, other].map V.str ++ tw.map V.str))) e (.lst ([one, other].map V.str ++ tw.map V.str ++ th.map V.str)) q = _ := (upd_ne neq).trans ((upd_ne (ne_of_none q3 ha)).trans q3)
    have e5 : TxL (upd (upd H1 a (.lst ([one, other].map V.str ++ tw.map V.str))) e (.lst ([one, other].map V.str ++ tw.map V.str ++ th.map V.str))) e 20 14 := by
      rw [← List.map_append]
      refine TxL.ext (fun x hx => ?_) (fun x hx => (hth x hx).mono (by decide)) (by rw [List.length_append, hsl]; omega)
      rcases List.mem_append.mp hx with h | h
      · exact (hS x h).mono (by decide)
      · exact (htw x h).mono (by decide)
    refine ⟨_, rfl, p, rfl, ⟨_, SqL.of p5⟩, for_it walk_list (fun i σ H1 => ∃ v4 v8 : Option V, σ = [some (.str one), some (.str other), some (.ref p), some (.ref q), v4, some (.ref r), v6, some (.ref e), v8, none] ∧ Same H H1 ∧ H1 p = some (.lst ([one, other].map V.str)) ∧ H1 q = some (.lst (tw.map V.str)) ∧ TxL H1 e 20 (14 + i * 48)) ⟨v4, none, rfl, s5, p5, q5, e5⟩ (fun i σ H1 _ h => by obtain ⟨v4, v6, _, _, h, _⟩ := h; exact SqL.of h) ?_ ?_⟩
    · rintro i x σ H1 H2 hi ⟨v4, v8, rfl, s6, p6, q6, e6⟩ ⟨rfl, hx⟩
      obtain ⟨sn, hsn, rfl⟩ := strs_at hx
      have ls := hS sn hsn
      refine ⟨_, rfl, _, rfl, p, q, _, _, rfl, rfl, p6, q6, small5 (by simp only [List.length_map]; rw [hsl]; omega), fun b hb => ?_⟩
      have nbp : p ≠ b := ne_of_none p6 hb
      have nbq : q ≠ b := ne_of_none q6 hb
      have nbe : e ≠ b := by
        obtain ⟨es, h, _⟩ := e6
        exact ne_of_none h hb
      have hb1 : H b = none := by
        cases x : H b with
        | none => rfl
        | some o => rw [s6 _ _ x] at hb; cases hb
      have b7 : upd H2 b (.lst ([one, other].map V.str ++ tw.map V.str)) b = some (.lst (([one, other] ++ tw).map V.str)) := by rw [upd_same, List.map_append]
      have e7 : TxL (upd H2 b (.lst ([one, other].map V.str ++ tw.map V.str))) e 20 (14 + i * 48) := by
        obtain ⟨es, h, h'⟩ := e6
        exact ⟨es, (upd_ne nbe).trans h, h'⟩
      refine ⟨b, rfl, ⟨_, SqL.of b7⟩, for_it walk_list (fun j σ H1 => ∃ v8 : Option V, σ = [some (.str one), some (.str other), some (.ref p), some (.ref q), some (.str sn), some (.ref r), v6, some (.ref e), v8, none] ∧ Same H H1 ∧ H1 p = some (.lst ([one, other].map V.str)) ∧ H1 q = some (.lst (tw.map V.str)) ∧ H1 b = some (.lst (([one, other] ++ tw).map V.str)) ∧ TxL H1 e 20 (14 + i * 48 + j * 8)) ⟨v8, rfl, Same.put s6 hb1, (upd_ne nbp).trans p6, (upd_ne nbq).trans q6, b7, e7⟩ (fun i σ H1 _ h => by obtain ⟨v8, _, _, _, _, h, _⟩ := h; exact SqL.of h) ?_ ?_⟩
      · rintro j x σ H1 H3 hj ⟨v8, rfl, s8, p8, q8, b8, es, e8, hes, les⟩ ⟨rfl, hx⟩
        obtain ⟨wd, hwd, rfl⟩ := strs_at hx
        have lw : SnL 2 wd := by
          rcases List.mem_append.mp hwd with h | h
          · exact (hS wd h).mono (by decide)
          · exact htw wd h
        have hi2 : i < 2 := hi
        have hj6 : j < 6 := by
          have : j < (([one, other] ++ tw).map V.str).length := hj
          rw [List.length_map, List.length_append, hsl] at this
          omega
        have les' : es.length ≤ 110 := by omega
        have ne0 : H3 e = some (.lst (es.map V.str)) := e8
        refine ⟨_, rfl, .inl ⟨rfl, _, SqL.of e8⟩, _, rfl, _, _, rfl, rfl, (ls).fit l_dot (by decide), _, rfl, _, _, rfl, rfl, ((ls).app l_dot).fit lw (by decide), _, rfl, _, _, rfl, rfl, (lw).fit l_dot (by decide), _, rfl, _, _, rfl, rfl, ((lw).app l_dot).fit ls (by decide), _, rfl, _, _, rfl, rfl, (ls).fit l_op (by decide), _, rfl, _, _, rfl, rfl, ((ls).app l_op).fit lw (by decide), _, _, rfl, rfl, (((ls).app l_op).app lw).fit l_cl (by decide), _, rfl, _, _, rfl, rfl, (lw).fit l_op (by decide), _, rfl, _, _, rfl, rfl, ((lw).app l_op).fit ls (by decide), _, _, rfl, rfl, (((lw).app l_op).app ls).fit l_cl (by decide), small5 (by simp), fun c0 hc0 => ?_⟩
        have hv0 : ∀ x ∈ ([((sn ++ (Str.ofString ".")) ++ wd), ((wd ++ (Str.ofString ".")) ++ sn), (((sn ++ (Str.ofString "(")) ++ wd) ++ (Str.ofString ")")), (((wd ++ (Str.ofString "(")) ++ sn) ++ (Str.ofString ")"))] : List Str), SnL 20 x := by
          simp only [List.mem_cons, List.not_mem_nil, or_false]
          rintro x (rfl | rfl | rfl | rfl)
          · exact (((ls).app l_dot).app lw).mono (by decide)
          · exact (((lw).app l_dot).app ls).mono (by decide)
          · exact ((((ls).app l_op).app lw).app l_cl).mono (by decide)
          · exact ((((lw).app l_op).app ls).app l_cl).mono (by decide)
        have f0 : H c0 = none := by
          cases x : H c0 with
          | none => rfl
          | some o => rw [s8 _ _ x] at hc0; cases hc0
        have m0 : e ≠ c0 := ne_of_none e8 hc0
        refine ⟨e, c0, _, [((sn ++ (Str.ofString ".")) ++ wd), ((wd ++ (Str.ofString ".")) ++ sn), (((sn ++ (Str.ofString "(")) ++ wd) ++ (Str.ofString ")")), (((wd ++ (Str.ofString "(")) ++ sn) ++ (Str.ofString ")"))].map V.str, rfl, rfl, (upd_ne m0).trans e8, upd_same, small5 (by simp only [List.length_map, List.length_cons, List.length_nil]; omega), ?_⟩
        have ss0 : Same H (upd (upd H3 c0 (.lst ([((sn ++ (Str.ofString ".")) ++ wd), ((wd ++ (Str.ofString ".")) ++ sn), (((sn ++ (Str.ofString "(")) ++ wd) ++ (Str.ofString ")")), (((wd ++ (Str.ofString "(")) ++ sn) ++ (Str.ofString ")"))].map V.str))) e (.lst (es.map V.str ++ [((sn ++ (Str.ofString ".")) ++ wd), ((wd ++ (Str.ofString ".")) ++ sn), (((sn ++ (Str.ofString "(")) ++ wd) ++ (Str.ofString ")")), (((wd ++ (Str.ofString "(")) ++ sn) ++ (Str.ofString ")"))].map V.str))) := Same.put (Same.put s8 f0) he1
        have pp0 : (upd (upd H3 c0 (.lst ([((sn ++ (Str.ofString ".")) ++ wd), ((wd ++ (Str.ofString ".")) ++ sn), (((sn ++ (Str.ofString "(")) ++ wd) ++ (Str.ofString ")")), (((wd ++ (Str.ofString "(")) ++ sn) ++ (Str.ofString ")"))].map V.str))) e (.lst (es.map V.str ++ [((sn ++ (Str.ofString ".")) ++ wd), ((wd ++ (Str.ofString ".")) ++ sn), (((sn ++ (Str.ofString "(")) ++ wd) ++ (Str.ofString ")")), (((wd ++ (Str.ofString "(")) ++ sn) ++ (Str.ofString ")"))].map V.str))) p = _ := (upd_ne nep).trans ((upd_ne (ne_of_none p8 hc0)).trans p8)
        have qq0 : (upd (upd H3 c0 (.lst ([((sn ++ (Str.ofString ".")) ++ wd), ((wd ++ (Str.ofString ".")) ++ sn), (((sn ++ (Str.ofString "(")) ++ wd) ++ (Str.ofString ")")), (((wd ++ (Str.ofString "(")) ++ sn) ++ (Str.ofString ")"))].map V.str))) e (.lst (es.map V.str ++ [((sn ++ (Str.ofString ".")) ++ wd), ((wd ++ (Str.ofString ".")) ++ sn), (((sn ++ (Str.ofString "(")) ++ wd) ++ (Str.ofString ")")), (((wd ++ (Str.ofString "(")) ++ sn) ++ (Str.ofString ")"))].map V.str))) q = _ := (upd_ne neq).trans ((upd_ne (ne_of_none q8 hc0)).trans q8)
        have bb0 : (upd (upd H3 c0 (.lst ([((sn ++ (Str.ofString ".")) ++ wd), ((wd ++ (Str.ofString ".")) ++ sn), (((sn ++ (Str.ofString "(")) ++ wd) ++ (Str.ofString ")")), (((wd ++ (Str.ofString "(")) ++ sn) ++ (Str.ofString ")"))].map V.str))) e (.lst (es.map V.str ++ [((sn ++ (Str.ofString ".")) ++ wd), ((wd ++ (Str.ofString ".")) ++ sn), (((sn ++ (Str.ofString "(")) ++ wd) ++ (Str.ofString ")")), (((wd ++ (Str.ofString "(")) ++ sn) ++ (Str.ofString ")"))].map V.str))) b = _ := (upd_ne nbe.symm).trans ((upd_ne (ne_of_none b8 hc0)).trans b8)
        have ee0 : (upd (upd H3 c0 (.lst ([((sn ++ (Str.ofString ".")) ++ wd), ((wd ++ (Str.ofString ".")) ++ sn), (((sn ++ (Str.ofString "(")) ++ wd) ++ (Str.ofString ")")), (((wd ++ (Str.ofString "(")) ++ sn) ++ (Str.ofString ")"))].map V.str))) e (.lst (es.map V.str ++ [((sn ++ (Str.ofString ".")) ++ wd), ((wd ++ (Str.ofString ".")) ++ sn), (((sn ++ (Str.ofString "(")) ++ wd) ++ (Str.ofString ")")), (((wd ++ (Str.ofString "(")) ++ sn) ++ (Str.ofString ")"))].map V.str))) e = some (.lst ((es ++ [((sn ++ (Str.ofString ".")) ++ wd), ((wd ++ (Str.ofString ".")) ++ sn), (((sn ++ (Str.ofString "(")) ++ wd) ++ (Str.ofString ")")), (((wd ++ (Str.ofString "(")) ++ sn) ++ (Str.ofString ")"))]).map V.str)) := by rw [upd_same, List.map_append]
        have hh0 : ∀ x ∈ es ++ [((sn ++ (Str.ofString ".")) ++ wd), ((wd ++ (Str.ofString ".")) ++ sn), (((sn ++ (Str.ofString "(")) ++ wd) ++ (Str.ofString ")")), (((wd ++ (Str.ofString "(")) ++ sn) ++ (Str.ofString ")"))], SnL 20 x := fun x hx => (List.mem_append.mp hx).elim (hes x) (hv0 x)
        have ll0 : (es ++ [((sn ++ (Str.ofString ".")) ++ wd), ((wd ++ (Str.ofString ".")) ++ sn), (((sn ++ (Str.ofString "(")) ++ wd) ++ (Str.ofString ")")), (((wd ++ (Str.ofString "(")) ++ sn) ++ (Str.ofString ")"))]).length = es.length + 4 := by simp
        refine gen_st (H0 := upd (upd H3 c0 (.lst ([((sn ++ (Str.ofString ".")) ++ wd), ((wd ++ (Str.ofString ".")) ++ sn), (((sn ++ (Str.ofString "(")) ++ wd) ++ (Str.ofString ")")), (((wd ++ (Str.ofString "(")) ++ sn) ++ (Str.ofString ")"))].map V.str))) e (.lst (es.map V.str ++ [((sn ++ (Str.ofString ".")) ++ wd), ((wd ++ (Str.ofString ".")) ++ sn), (((sn ++ (Str.ofString "(")) ++ wd) ++ (Str.ofString ")")), (((wd ++ (Str.ofString "(")) ++ sn) ++ (Str.ofString ")"))].map V.str))) (Gd := fun Hx => Same H Hx ∧ Hx p = some (.lst ([one, other].map V.str)) ∧ Hx q = some (.lst (tw.map V.str)) ∧ Hx b = some (.lst (([one, other] ++ tw).map V.str)) ∧ ∃ es' : List Str, Hx e = some (.lst (es'.map V.str)) ∧ (∀ x ∈ es', SnL 20 x) ∧ es'.length = es.length + 4) ⟨ss0, pp0, qq0, bb0, _, ee0, hh0, ll0⟩ ?_
        rintro J0 ⟨ss0, pp0, qq0, bb0, es0, ee0, hh0, ll0⟩
        refine ⟨_, rfl, .inl ⟨rfl, _, SqL.of ee0⟩, _, rfl, _, _, rfl, rfl, (ls).fit l_dot (by decide), _, rfl, _, _, rfl, rfl, ((ls).app l_dot).fit lw (by decide), _, _, rfl, rfl, (((ls).app l_dot).app lw).fit l_op (by decide), _, rfl, _, _, rfl, rfl, ((((ls).app l_dot).app lw).app l_op).fit l1 (by decide), _, _, rfl, rfl, (((((ls).app l_dot).app lw).app l_op).app l1).fit l_cl (by decide), _, rfl, _, _, rfl, rfl, (ls).fit l_op (by decide), _, rfl, _, _, rfl, rfl, ((ls).app l_op).fit lw (by decide), _, _, rfl, rfl, (((ls).app l_op).app lw).fit l_co (by decide), _, rfl, _, _, rfl, rfl, ((((ls).app l_op).app lw).app l_co).fit l2 (by decide), _, _, rfl, rfl, (((((ls).app l_op).app lw).app l_co).app l2).fit l_cl (by decide), small5 (by simp), fun c1 hc1 => ?_⟩
        have hv1 : ∀ x ∈ ([(((((sn ++ (Str.ofString ".")) ++ wd) ++ (Str.ofString "(")) ++ one) ++ (Str.ofString ")")), (((((sn ++ (Str.ofString "(")) ++ wd) ++ (Str.ofString ",")) ++ other) ++ (Str.ofString ")"))] : List Str), SnL 20 x := by
          simp only [List.mem_cons, List.not_mem_nil, or_false]
          rintro x (rfl | rfl)
          · exact ((((((ls).app l_dot).app lw).app l_op).app l1).app l_cl).mono (by decide)
          · exact ((((((ls).app l_op).app lw).app l_co).app l2).app l_cl).mono (by decide)
        have f1 : H c1 = none := by
          cases x : H c1 with
          | none => rfl
          | some o => rw [ss0 _ _ x] at hc1; cases hc1
        have m1 : e ≠ c1 := ne_of_none ee0 hc1
        refine ⟨e, c1, _, [(((((sn ++ (Str.ofString ".")) ++ wd) ++ (Str.ofString "(")) ++ one) ++ (Str.ofString ")")), (((((sn ++ (Str.ofString "(")) ++ wd) ++ (Str.ofString ",")) ++ other) ++ (Str.ofString ")"))].map V.str, rfl, rfl, (upd_ne m1).trans ee0, upd_same, small5 (by simp only [List.length_map, List.length_cons, List.length_nil]; omega), ?_⟩
        have ss1 : Same H (upd (upd J0 c1 (.lst ([(((((sn ++ (Str.ofString ".")) ++ wd) ++ (Str.ofString "(")) ++ one) ++ (Str.ofString ")")), (((((sn ++ (Str.ofString "(")) ++ wd) ++ (Str.ofString ",")) ++ other) ++ (Str.ofString ")"))].map V.str))) e (.lst (es0.map V.str ++ [(((((sn ++ (Str.ofString ".")) ++ wd) ++ (Str.ofString "(")) ++ one) ++ (Str.ofString ")")), (((((sn ++ (Str.ofString "(")) ++ wd) ++ (Str.ofString ",")) ++ other) ++ (Str.ofString ")"))].map V.str))) := Same.put (Same.put ss0 f1) he1
        have pp1 : (upd (upd J0 c1 (.lst ([(((((sn ++ (Str.ofString ".")) ++ wd) ++ (Str.ofString "(")) ++ one) ++ (Str.ofString ")")), (((((sn ++ (Str.ofString "(")) ++ wd) ++ (Str.ofString ",")) ++ other) ++ (Str.ofString ")"))].map V.str))) e (.lst (es0.map V.str ++ [(((((sn ++ (Str.ofString ".")) ++ wd) ++ (Str.ofString "(")) ++ one) ++ (Str.ofString ")")), (((((sn ++ (Str.ofString "(")) ++ wd) ++ (Str.ofString ",")) ++ other) ++ (Str.ofString ")"))].map V.str))) p = _ := (upd_ne nep).trans ((upd_ne (ne_of_none pp0 hc1)).trans pp0)
        have qq1 : (upd (upd J0 c1 (.lst ([(((((sn ++ (Str.ofString ".")) ++ wd) ++ (Str.ofString "(")) ++ one) ++ (Str.ofString ")")), (((((sn ++ (Str.ofString "(")) ++ wd) ++ (Str.ofString ",")) ++ other) ++ (Str.ofString ")"))].map V.str))) e (.lst (es0.map V.str ++ [(((((sn ++ (Str.ofString ".")) ++ wd) ++ (Str.ofString "(")) ++ one) ++ (Str.ofString ")")), (((((sn ++ (Str.ofString "(")) ++ wd) ++ (Str.ofString ",")) ++ other) ++ (Str.ofString ")"))].map V.str))) q = _ := (upd_ne neq).trans ((upd_ne (ne_of_none qq0 hc1)).trans qq0)
        have bb1 : (upd (upd J0 c1 (.lst ([(((((sn ++ (Str.ofString ".")) ++ wd) ++ (Str.ofString "(")) ++ one) ++ (Str.ofString ")")), (((((sn ++ (Str.ofString "(")) ++ wd) ++ (Str.ofString ",")) ++ other) ++ (Str.ofString ")"))].map V.str))) e (.lst (es0.map V.str ++ [(((((sn ++ (Str.ofString ".")) ++ wd) ++ (Str.ofString "(")) ++ one) ++ (Str.ofString ")")), (((((sn ++ (Str.ofString "(")) ++ wd) ++ (Str.ofString ",")) ++ other) ++ (Str.ofString ")"))].map V.str))) b = _ := (upd_ne nbe.symm).trans ((upd_ne (ne_of_none bb0 hc1)).trans bb0)
        have ee1 : (upd (upd J0 c1 (.lst ([(((((sn ++ (Str.ofString ".")) ++ wd) ++ (Str.ofString "(")) ++ one) ++ (Str.ofString ")")), (((((sn ++ (Str.ofString "(")) ++ wd) ++ (Str.ofString ",")) ++ other) ++ (Str.ofString ")"))].map V.str))) e (.lst (es0.map V.str ++ [(((((sn ++ (Str.ofString ".")) ++ wd) ++ (Str.ofString "(")) ++ one) ++ (Str.ofString ")")), (((((sn ++ (Str.ofString "(")) ++ wd) ++ (Str.ofString ",")) ++ other) ++ (Str.ofString ")"))].map V.str))) e = some (.lst ((es0 ++ [(((((sn ++ (Str.ofString ".")) ++ wd) ++ (Str.ofString "(")) ++ one) ++ (Str.ofString ")")), (((((sn ++ (Str.ofString "(")) ++ wd) ++ (Str.ofString ",")) ++ other) ++ (Str.ofString ")"))]).map V.str)) := by rw [upd_same, List.map_append]
        have hh1 : ∀ x ∈ es0 ++ [(((((sn ++ (Str.ofString ".")) ++ wd) ++ (Str.ofString "(")) ++ one) ++ (Str.ofString ")")), (((((sn ++ (Str.ofString "(")) ++ wd) ++ (Str.ofString ",")) ++ other) ++ (Str.ofString ")"))], SnL 20 x := fun x hx => (List.mem_append.mp hx).elim (hh0 x) (hv1 x)
        have ll1 : (es0 ++ [(((((sn ++ (Str.ofString ".")) ++ wd) ++ (Str.ofString "(")) ++ one) ++ (Str.ofString ")")), (((((sn ++ (Str.ofString "(")) ++ wd) ++ (Str.ofString ",")) ++ other) ++ (Str.ofString ")"))]).length = es0.length + 2 := by simp
        refine gen_st (H0 := upd (upd J0 c1 (.lst ([(((((sn ++ (Str.ofString ".")) ++ wd) ++ (Str.ofString "(")) ++ one) ++ (Str.ofString ")")), (((((sn ++ (Str.ofString "(")) ++ wd) ++ (Str.ofString ",")) ++ other) ++ (Str.ofString ")"))].map V.str))) e (.lst (es0.map V.str ++ [(((((sn ++ (Str.ofString ".")) ++ wd) ++ (Str.ofString "(")) ++ one) ++ (Str.ofString ")")), (((((sn ++ (Str.ofString "(")) ++ wd) ++ (Str.ofString ",")) ++ other) ++ (Str.ofString ")"))].map V.str))) (Gd := fun Hx => Same H Hx ∧ Hx p = some (.lst ([one, other].map V.str)) ∧ Hx q = some (.lst (tw.map V.str)) ∧ Hx b = some (.lst (([one, other] ++ tw).map V.str)) ∧ ∃ es' : List Str, Hx e = some (.lst (es'.map V.str)) ∧ (∀ x ∈ es', SnL 20 x) ∧ es'.length = es0.length + 2) ⟨ss1, pp1, qq1, bb1, _, ee1, hh1, ll1⟩ ?_
        rintro J1 ⟨ss1, pp1, qq1, bb1, es1, ee1, hh1, ll1⟩
        refine ⟨_, rfl, .inl ⟨rfl, _, SqL.of ee1⟩, _, rfl, _, _, rfl, rfl, (ls).fit l_dot (by decide), _, rfl, _, _, rfl, rfl, ((ls).app l_dot).fit l1 (by decide), _, _, rfl, rfl, (((ls).app l_dot).app l1).fit l_dot (by decide), _, rfl, _, _, rfl, rfl, ((((ls).app l_dot).app l1).app l_dot).fit lw (by decide), _, rfl, _, _, rfl, rfl, (l1).fit l_op (by decide), _, rfl, _, _, rfl, rfl, ((l1).app l_op).fit ls (by decide), _, _, rfl, rfl, (((l1).app l_op).app ls).fit l_dot (by decide), _, rfl, _, _, rfl, rfl, ((((l1).app l_op).app ls).app l_dot).fit lw (by decide), _, _, rfl, rfl, (((((l1).app l_op).app ls).app l_dot).app lw).fit l_cl (by decide), small5 (by simp), fun c2 hc2 => ?_⟩
        have hv2 : ∀ x ∈ ([((((sn ++ (Str.ofString ".")) ++ one) ++ (Str.ofString ".")) ++ wd), (((((one ++ (Str.ofString "(")) ++ sn) ++ (Str.ofString ".")) ++ wd) ++ (Str.ofString ")"))] : List Str), SnL 20 x := by
          simp only [List.mem_cons, List.not_mem_nil, or_false]
          rintro x (rfl | rfl)
          · exact (((((ls).app l_dot).app l1).app l_dot).app lw).mono (by decide)
          · exact ((((((l1).app l_op).app ls).app l_dot).app lw).app l_cl).mono (by decide)
        have f2 : H c2 = none := by
          cases x : H c2 with
          | none => rfl
          | some o => rw [ss1 _ _ x] at hc2; cases hc2
        have m2 : e ≠ c2 := ne_of_none ee1 hc2
        refine ⟨e, c2, _, [((((sn ++ (Str.ofString ".")) ++ one) ++ (Str.ofString ".")) ++ wd), (((((one ++ (Str.ofString "(")) ++ sn) ++ (Str.ofString ".")) ++ wd) ++ (Str.ofString ")"))].map V.str, rfl, rfl, (upd_ne m2).trans ee1, upd_same, small5 (by simp only [List.length_map, List.length_cons, List.length_nil]; omega), ?_⟩
        have ss2 : Same H (upd (upd J1 c2 (.lst ([((((sn ++ (Str.ofString ".")) ++ one) ++ (Str.ofString ".")) ++ wd), (((((one ++ (Str.ofString "(")) ++ sn) ++ (Str.ofString ".")) ++ wd) ++ (Str.ofString ")"))].map V.str))) e (.lst (es1.map V.str ++ [((((sn ++ (Str.ofString ".")) ++ one) ++ (Str.ofString ".")) ++ wd), (((((one ++ (Str.ofString "(")) ++ sn) ++ (Str.ofString ".")) ++ wd) ++ (Str.ofString ")"))].map V.str))) := Same.put (Same.put ss1 f2) he1
        have pp2 : (upd (upd J1 c2 (.lst ([((((sn ++ (Str.ofString ".")) ++ one) ++ (Str.ofString ".")) ++ wd), (((((one ++ (Str.ofString "(")) ++ sn) ++ (Str.ofString ".")) ++ wd) ++ (Str.ofString ")"))].map V.str))) e (.lst (es1.map V.str ++ [((((sn ++ (Str.ofString ".")) ++ one) ++ (Str.ofString ".")) ++ wd), (((((one ++ (Str.ofString "(")) ++ sn) ++ (Str.ofString ".")) ++ wd) ++ (Str.ofString ")"))].map V.str))) p = _ := (upd_ne nep).trans ((upd_ne (ne_of_none pp1 hc2)).trans pp1)
        have qq2 : (upd (upd J1 c2 (.lst ([((((sn ++ (Str.ofString ".")) ++ one) ++ (Str.ofString ".")) ++ wd), (((((one ++ (Str.ofString "(")) ++ sn) ++ (Str.ofString ".")) ++ wd) ++ (Str.ofString ")"))].map V.str))) e (.lst (es1.map V.str ++ [((((sn ++ (Str.ofString ".")) ++ one) ++ (Str.ofString ".")) ++ wd), (((((one ++ (Str.ofString "(")) ++ sn) ++ (Str.ofString ".")) ++ wd) ++ (Str.ofString ")"))].map V.str))) q = _ := (upd_ne neq).trans ((upd_ne (ne_of_none qq1 hc2)).trans qq1)
        have bb2 : (upd (upd J1 c2 (.lst ([((((sn ++ (Str.ofString ".")) ++ one) ++ (Str.ofString ".")) ++ wd), (((((one ++ (Str.ofString "(")) ++ sn) ++ (Str.ofString ".")) ++ wd) ++ (Str.ofString ")"))].map V.str))) e (.lst (es1.map V.str ++ [((((sn ++ (Str.ofString ".")) ++ one) ++ (Str.ofString ".")) ++ wd), (((((one ++ (Str.ofString "(")) ++ sn) ++ (Str.ofString ".")) ++ wd) ++ (Str.ofString ")"))].map V.str))) b = _ := (upd_ne nbe.symm).trans ((upd_ne (ne_of_none bb1 hc2)).trans bb1)
        have ee2 : (upd (upd J1 c2 (.lst ([((((sn ++ (Str.ofString ".")) ++ one) ++ (Str.ofString ".")) ++ wd), (((((one ++ (Str.ofString "(")) ++ sn) ++ (Str.ofString ".")) ++ wd) ++ (Str.ofString ")"))].map V.str))) e (.lst (es1.map V.str ++ [((((sn ++ (Str.ofString ".")) ++ one) ++ (Str.ofString ".")) ++ wd), (((((one ++ (Str.ofString "(")) ++ sn) ++ (Str.ofString ".")) ++ wd) ++ (Str.ofString ")"))].map V.str))) e = some (.lst ((es1 ++ [((((sn ++ (Str.ofString ".")) ++ one) ++ (Str.ofString ".")) ++ wd), (((((one ++ (Str.ofString "(")) ++ sn) ++ (Str.ofString ".")) ++ wd) ++ (Str.ofString ")"))]).map V.str)) := by rw [upd_same, List.map_append]
        have hh2 : ∀ x ∈ es1 ++ [((((sn ++ (Str.ofString ".")) ++ one) ++ (Str.ofString ".")) ++ wd), (((((one ++ (Str.ofString "(")) ++ sn) ++ (Str.ofString ".")) ++ wd) ++ (Str.ofString ")"))], SnL 20 x := fun x hx => (List.mem_append.mp hx).elim (hh1 x) (hv2 x)
        have ll2 : (es1 ++ [((((sn ++ (Str.ofString ".")) ++ one) ++ (Str.ofString ".")) ++ wd), (((((one ++ (Str.ofString "(")) ++ sn) ++ (Str.ofString ".")) ++ wd) ++ (Str.ofString ")"))]).length = es1.length + 2 := by simp
        refine gen_st (H0 := upd (upd J1 c2 (.lst ([((((sn ++ (Str.ofString ".")) ++ one) ++ (Str.ofString ".")) ++ wd), (((((one ++ (Str.ofString "(")) ++ sn) ++ (Str.ofString ".")) ++ wd) ++ (Str.ofString ")"))].map V.str))) e (.lst (es1.map V.str ++ [((((sn ++ (Str.ofString ".")) ++ one) ++ (Str.ofString ".")) ++ wd), (((((one ++ (Str.ofString "(")) ++ sn) ++ (Str.ofString ".")) ++ wd) ++ (Str.ofString ")"))].map V.str))) (Gd := fun Hx => Same H Hx ∧ Hx p = some (.lst ([one, other].map V.str)) ∧ Hx q = some (.lst (tw.map V.str)) ∧ Hx b = some (.lst (([one, other] ++ tw).map V.str)) ∧ ∃ es' : List Str, Hx e = some (.lst (es'.map V.str)) ∧ (∀ x ∈ es', SnL 20 x) ∧ es'.length = es1.length + 2) ⟨ss2, pp2, qq2, bb2, _, ee2, hh2, ll2⟩ ?_
        rintro J2 ⟨ss2, pp2, qq2, bb2, es2, ee2, hh2, ll2⟩
        exact ⟨_, rfl, ss2, pp2, qq2, bb2, _, ee2, hh2, by omega⟩
      · rintro σ H1 ⟨v8, rfl, s8, p8, q8, b8, es, e8, hes, les⟩
        refine ⟨_, _, rfl, s8, p8, q8, es, e8, hes, ?_⟩
        rw [List.length_map, List.length_append, hsl] at les
        omega
    · rintro σ H1 ⟨v4, v8, rfl, s6, p6, q6, e6⟩
      exact ⟨_, rfl, k e H1 he1 e6 s6⟩
end
end N1
set_option Elab.async false
set_option linter.all false
set_option maxRecDepth 100000
namespace N1
open PySem PySem.Spec PyProof.Rows L2 TL
section
variable {P : Program} {w : World} {K : PySem.W.Frag} {mg : Str → Option Value} {base : Heap}
theorem ki_same (t : String) : PySem.W.kitOne K (.type t) (.type t) = some true := by
  unfold PySem.W.kitOne
  rw [if_pos (beq_self_eq_true _)]
/-! ### _law_is_number -/
def sp_num : Sp := fun vs H Q _ => ∃ i : Int, vs = [.int i] ∧ Q (.bl (decide (0 ≤ i))) H
abbrev s_law_is_number : Stmt := topS 18
theorem sc_law_is_number : FnScope ["thing"] ["thing"] (defScope s_law_is_number) := ⟨rfl, rfl, rfl, by decide +kernel, rfl, by decide +kernel, by decide +kernel⟩
theorem ok_law_is_number {f : Addr} {fd : FuncData} (F : Fun K "_law_is_number" "_law_is_number" s_law_is_number f fd) (T : Txt mg) : FnOk P w K mg base CX0 1 f fd ["thing"] sp_num := by
  refine F.ok sc_law_is_number (fun vs H Q E h => ?_) (fun cdv A outer s0 H vs Q E hr h => ?_)
  · obtain ⟨g, rfl, _⟩ := h
    rfl
  · obtain ⟨i, rfl, k⟩ := h
    refine ⟨_, (pss_one (ps_ret (pe_and (pe_callB call_isi (by rfl) T.b_isinstance (by decide +kernel) (pa_cons (pv 0) (pa_cons (pe_bltn (v := .ty "int") (u := .type "int") (by rfl) T.b_int (by decide +kernel) rfl) pa_nil))) (pe_and (pe_not (pe_callB call_isi (by rfl) T.b_isinstance (by decide +kernel) (pa_cons (pv 0) (pa_cons (pe_bltn (v := .ty "bool") (u := .type "bool") (by rfl) T.b_bool (by decide +kernel) rfl) pa_nil)))) (pe_one (pe_cmpR op_ge (pv 0) pe_int (nomark _))))))), ?_⟩
    refine q_andV (b1 := true) (fun Q' q => ⟨_, rfl, _, _, _, _, _, rfl, .ty _, .base (.int i), ki_same _, q⟩) (fun _ Q' q => ?_) (b2 := decide (0 ≤ i)) ?_
    · refine q_andV (b1 := true) (fun Q' q => ?_) (fun _ Q' q => ⟨_, rfl, _, _, rfl, rfl, q⟩) (b2 := decide (0 ≤ i)) ?_
      · refine ⟨_, rfl, _, _, _, _, _, rfl, .ty _, .base (.int i), kit_ty (b := "bool") (r := false) (by decide +kernel), _, rfl, q⟩
      · exact q
    · exact k
/-! ### _law_ascending -/
def Asc (ns : List Int) (many : Int) : Prop := ns.Pairwise (· < ·) ∧ ∀ x ∈ ns, 0 ≤ x ∧ x < many
theorem drop_at {α : Type} {l : List α} {i : Nat} {x : α} (h : l[i]? = some x) : l.drop i = x :: l.drop (i + 1) := by
  obtain ⟨hi, hx⟩ := List.getElem?_eq_some_iff.mp h
  rw [← hx]
  exact List.drop_eq_getElem_cons hi
theorem ints_at {ps : List Int} {i : Nat} {x : V} (h : (ps.map V.int)[i]? = some x) : ∃ z, ps[i]? = some z ∧ x = .int z := by
  rw [List.getElem?_map] at h
  cases e : ps[i]? with
  | none => rw [e] at h; cases h
  | some z => rw [e] at h; exact ⟨z, rfl, (Option.some.inj h).symm⟩
def sp_asc : Sp := fun vs H Q _ => ∃ (a : Addr) (ns : List Int) (many : Int), vs = [.ref a, .int many] ∧ H a = some (.tup (ns.map V.int)) ∧ Asc ns many ∧ Q (.bl true) H
abbrev s_law_ascending : Stmt := topS 19
theorem sc_law_ascending : FnScope ["thing", "many", "ahead", "state"] ["thing", "many"] (defScope s_law_ascending) := ⟨rfl, rfl, rfl, by decide +kernel, rfl, by decide +kernel, by decide +kernel⟩
theorem ok_law_ascending {f : Addr} {fd : FuncData} (F : Fun K "_law_ascending" "_law_ascending" s_law_ascending f fd) (T : Txt mg) (D_law_is_number : Df P w K mg base 1 "_law_is_number" ["thing"] sp_num) :
    FnOk P w K mg base CX0 2 f fd ["thing", "many"] sp_asc := by
  refine F.ok sc_law_ascending (fun vs H Q E h => ?_) (fun cdv A outer s0 H vs Q E hr h => ?_)
  · obtain ⟨a, ns, m, rfl, _⟩ := h
    rfl
  · obtain ⟨a, ns, m, rfl, ha, ⟨pw, hn⟩, k⟩ := h
    refine ⟨_, (pss_cons (ps_if (pt_not (pt_val (pe_callB call_isi (by rfl) T.b_isinstance (by decide +kernel) (pa_cons (pv 0) (pa_cons (pe_bltn (v := .ty "tuple") (u := .type "tuple") (by rfl) T.b_tuple (by decide +kernel) rfl) pa_nil)))))
 (pss_one (ps_ret pe_bl))
 pss_nil)
 (pss_cons (ps_set (i := 2) sc_law_ascending.nd rfl (Or.inl rfl) (pe_un un_neg pe_int))
 (pss_cons (ps_for PassesOwn.never rfl (pi_tup (pv 0)) (pg_name (i := 3) sc_law_ascending.nd rfl (Or.inl rfl))
 (pss_cons (ps_if (PW.pt (pw_or (pt_not (pt_val (pe_d D_law_is_number hr rfl (pa_cons (pv 3) pa_nil)))) (pw_or (pt_cmpR op_le (pv 3) (pv 2) (nomark _)) (pw_or1 (pt_cmpR op_ge (pv 3) (pv 1) (nomark _))))))
 (pss_one (ps_ret pe_bl))
 pss_nil)
 (pss_one (ps_set (i := 2) sc_law_ascending.nd rfl (Or.inl rfl) (pv 3)))))
 (pss_one (ps_ret pe_bl))))), ?_⟩
    refine ⟨_, rfl, _, _, _, _, _, rfl, .ty _, .base (.tup ha), ki_same _, _, rfl, ite2 (fun h => by cases h) (fun _ => ?_)⟩
    refine ⟨_, rfl, ?_⟩
    refine ⟨_, rfl, a, rfl, ⟨_, SqT.of ha⟩, for_it walk_tup (fun i σ H1 => ∃ (e : Int) (v : Option V), σ = [some (.ref a), some (.int m), some (.int e), v] ∧ H1 = H ∧ ∀ x ∈ ns.drop i, e < x) ⟨-1, none, rfl, rfl, fun x hx => by have := hn x (List.mem_of_mem_drop hx); omega⟩ (fun i σ H1 _ h => by obtain ⟨_, _, _, rfl, _⟩ := h; exact SqT.of ha) ?_ ?_⟩
    · rintro i x σ H1 H2 hi ⟨e, v, rfl, rfl, hd⟩ ⟨rfl, hx⟩
      obtain ⟨z, hz, rfl⟩ := ints_at hx
      have ez := drop_at hz
      have hzm := hn z (List.mem_of_getElem? hz)
      have h1 := hd z (by rw [ez]; exact List.mem_cons_self)
      have pd : (ns.drop i).Pairwise (· < ·) := pw.sublist (List.drop_sublist i ns)
      rw [ez, List.pairwise_cons] at pd
      refine q_or (b1 := false) (b2 := false) (fun Q' q => ⟨_, rfl, z, rfl, _, rfl, ?_⟩) (fun _ Q' q => ?_) ?_
      · rw [decide_eq_true hzm.1]
        exact q
      · refine q_or (b1 := false) (b2 := false) (fun Q' q => ⟨_, rfl, _, rfl, _, _, rfl, rfl, _, rfl, ?_⟩) (fun _ Q' q => ⟨_, rfl, _, rfl, _, _, rfl, rfl, _, rfl, ?_⟩) q
        · rw [decide_eq_false (by omega)]
          exact q
        · rw [decide_eq_false (by omega)]
          exact q
      · exact ite2 (fun h => by cases h) (fun _ => ⟨_, rfl, z, _, rfl, rfl, pd.1⟩)
    · rintro σ H1 ⟨e, v, rfl, rfl, hd⟩
      exact k
end
end N1
set_option Elab.async false
set_option linter.all false
set_option maxRecDepth 100000
namespace N1
open PySem PySem.Spec PyProof.Rows L2 TL
theorem mv_of {H : Hp} {v : V} {x : Mv} (h : Im H v (mvD x)) : ∃ b, v = .ref b ∧ H b = some (.tup [.int x.1, .str x.2.1, .int x.2.2.1, .int x.2.2.2]) := by
  obtain ⟨b, xs, rfl, hb, hI⟩ := h.tup_of
  refine ⟨b, rfl, ?_⟩
  rw [hb]
  cases hI with
  | cons h1 r1 =>
    cases r1 with
    | cons h2 r2 =>
      cases r2 with
      | cons h3 r3 =>
        cases r3 with
        | cons h4 r4 =>
          cases r4
          rw [h1.int_of, h2.str_of, h3.int_of, h4.int_of]
/-- a machine in the heap -/
structure McAt (H : Hp) (a : Addr) (m : Mc) (a1 a2 a3 : Addr) (xs : List V) : Prop where
  top : H a = some (.tup [.int m.n, .ref a1, .ref a2, .ref a3])
  st : H a1 = some (.tup (m.st.map V.int))
  en : H a2 = some (.tup (m.en.map V.int))
  ms : H a3 = some (.tup xs)
  im : Ims H xs (m.ms.map mvD)
theorem mc_of {H : Hp} {v : V} {m : Mc} (h : Im H v (mcD m)) : ∃ a a1 a2 a3 xs, v = .ref a ∧ McAt H a m a1 a2 a3 xs := by
  obtain ⟨b, xs, rfl, hb, hI⟩ := h.tup_of
  cases hI with
  | cons h1 r1 =>
    cases r1 with
    | cons h2 r2 =>
      cases r2 with
      | cons h3 r3 =>
        cases r3 with
        | cons h4 r4 =>
          cases r4
          obtain ⟨a1, x1, rfl, k1, i1⟩ := h2.tup_of
          obtain ⟨a2, x2, rfl, k2, i2⟩ := h3.tup_of
          obtain ⟨a3, x3, rfl, k3, i3⟩ := h4.tup_of
          rw [h1.int_of] at hb
          rw [i1.ints_of] at k1
          rw [i2.ints_of] at k2
          exact ⟨b, a1, a2, a3, x3, rfl, hb, k1, k2, k3, i3⟩
theorem McAt.same {H H' : Hp} {a : Addr} {m : Mc} {a1 a2 a3 : Addr} {xs : List V} (h : McAt H a m a1 a2 a3 xs) (s : Same H H') : McAt H' a m a1 a2 a3 xs := ⟨s _ _ h.top, s _ _ h.st, s _ _ h.en, s _ _ h.ms, h.im.mono (TK.same s)⟩
theorem McAt.move {H : Hp} {a : Addr} {m : Mc} {a1 a2 a3 : Addr} {xs : List V} (h : McAt H a m a1 a2 a3 xs) {i : Nat} {v : V} (e : xs[i]? = some v) :
    ∃ x b, m.ms[i]? = some x ∧ v = .ref b ∧ H b = some (.tup [.int x.1, .str x.2.1, .int x.2.2.1, .int x.2.2.2]) := by
  obtain ⟨x, hx, hi⟩ := h.im.at_back e
  obtain ⟨b, hb⟩ := mv_of hi
  exact ⟨x, b, hx, hb⟩
theorem McAt.len {H : Hp} {a : Addr} {m : Mc} {a1 a2 a3 : Addr} {xs : List V} (h : McAt H a m a1 a2 a3 xs) : xs.length = m.ms.length := by
  have := h.im.length
  rwa [List.length_map] at this
theorem same_upd_back {H H1 : Hp} {d : Addr} {o : HO} (s : Same H H1) (n : H d = none) : Same H (upd H1 d o) := Same.put s n
section
variable {P : Program} {w : World} {K : PySem.W.Frag} {mg : Str → Option Value} {base : Heap}
/-! ### _law_no_round -/
def sp_nr : Sp := fun vs H Q _ => ∃ (v : V) (m : Mc), vs = [v] ∧ Im H v (mcD m) ∧ (∀ x ∈ m.ms, x.2.2.2 ≠ 0) ∧ ∀ H', Same H H' → Q (.bl true) H'
abbrev s_law_no_round : Stmt := topS 21
theorem sc_law_no_round : FnScope ["machine", "onward", "many", "move", "free", "done", "k", "state"] ["machine"] (defScope s_law_no_round) := ⟨rfl, rfl, rfl, by decide +kernel, rfl, by decide +kernel, by decide +kernel⟩
theorem ok_law_no_round {f : Addr} {fd : FuncData} (F : Fun K "_law_no_round" "_law_no_round" s_law_no_round f fd) (T : Txt mg) : FnOk P w K mg base CX0 1 f fd ["machine"] sp_nr := by
  refine F.ok sc_law_no_round (fun vs H Q E h => ?_) (fun cdv A outer s0 H vs Q E hr h => ?_)
  · obtain ⟨a, ns, rfl, _⟩ := h
    rfl
  · obtain ⟨v, m, rfl, hv, hp, k⟩ := h
    have hu := hu_of hr
    obtain ⟨a, a1, a2, a3, xs, rfl, M⟩ := mc_of hv
    refine ⟨_, (pss_cons (ps_set (i := 1) sc_law_no_round.nd rfl (Or.inl rfl) pe_dnewK)
 (pss_cons (ps_set (i := 2) sc_law_no_round.nd rfl (Or.inr rfl) pe_dnewK)
 (pss_cons (ps_for PassesOwn.never rfl (pi_tup (pe_ix ix_tup (pv 0) pe_int (fun _ _ => rfl))) (pg_name (i := 3) sc_law_no_round.nd rfl (Or.inl rfl))
 (pss_one (ps_if (pt_cmpR op_eq (pe_ix ix_tup (pv 3) pe_int (fun _ _ => rfl)) pe_int (nomark _))
 (pss_cons (ps_expr (pe_bm PySem.F.plainAttrs_list PySem.F.slot_list_append PySem.F.type_list_append mt_append (pe_dsetd (pv 1) (pe_ix ix_tup (pv 3) pe_int (fun _ _ => rfl)) (pe_lst pa_nil) ⟨by rfl, by rfl, by rfl, by rfl⟩) (pa_cons (pe_ix ix_tup (pv 3) pe_int (fun _ _ => rfl)) pa_nil)))
 (pss_cons (ps_expr (pe_dsetd (pv 1) (pe_ix ix_tup (pv 3) pe_int (fun _ _ => rfl)) (pe_lst pa_nil) ⟨by rfl, by rfl, by rfl, by rfl⟩))
 (pss_one (ps_dput hu (pv 2) (pe_ix ix_tup (pv 3) pe_int (fun _ _ => rfl)) (pe_op op_add (pe_dget2 hu (pv 2) (pe_ix ix_tup (pv 3) pe_int (fun _ _ => rfl)) pe_int ⟨by rfl, by rfl, by rfl, by rfl⟩) pe_int) rfl))))
 pss_nil)))
 (pss_cons (ps_lock (ps_setLc (i := 4) (own := [("state", 7)]) (g := gName 7) rfl sc_law_no_round.nd rfl rfl (sw_true rfl rfl rfl (by decide +kernel)) (pi_keys (pv 1)) (blkOk_by (own := [("state", 7)]) (N := ["machine", "onward", "many", "move", "free", "done", "k", "state"]) (sc := defScope s_law_no_round) (by decide +kernel)) (fun _ _ _ _ _ => pg_name (i := 7) sc_law_no_round.nd rfl (Or.inl rfl)) (fun _ _ _ _ _ => (pts_one (pt_cmpR op_eq (pe_dget2 hu (pv 2) (pv 7) pe_int ⟨by rfl, by rfl, by rfl, by rfl⟩) pe_int (nomark _)))) (fun _ _ _ _ _ => (pv 7))))
 (pss_cons (ps_set (i := 5) sc_law_no_round.nd rfl (Or.inl rfl) pe_int)
 (pss_cons (ps_for PassesOwn.never rfl (pi_range1 (by rfl) T.b_range (pa_cons (pe_callB call_lenD (by rfl) T.b_len (by decide +kernel) (pa_cons (pv 1) pa_nil)) pa_nil)) (pg_name (i := 6) sc_law_no_round.nd rfl (Or.inl rfl))
 (pss_cons (ps_if (pt_cmpR op_ge (pv 6) (pe_callB call_len_seq (by rfl) T.b_len (by decide +kernel) (pa_cons (pv 4) pa_nil)) (nomark _))
 (pss_one (ps_ret pe_bl))
 pss_nil)
 (pss_cons (ps_set (i := 5) sc_law_no_round.nd rfl (Or.inl rfl) (pe_op op_add (pv 5) pe_int))
 (pss_one (ps_for PassesOwn.never rfl (pi_list (pe_dget hu (pv 1) (pe_ix ix_list (pv 4) (pv 6) (fun _ _ => rfl)) (fun _ _ => rfl))) (pg_name (i := 7) sc_law_no_round.nd rfl (Or.inl rfl))
 (pss_cons (ps_dput hu (pv 2) (pv 7) (pe_op op_sub (pe_dget hu (pv 2) (pv 7) (fun _ _ => rfl)) pe_int) rfl)
 (pss_one (ps_if (pt_cmpR op_eq (pe_dget hu (pv 2) (pv 7) (fun _ _ => rfl)) pe_int (nomark _))
 (pss_one (ps_expr (pe_bm PySem.F.plainAttrs_list PySem.F.slot_list_append PySem.F.type_list_append mt_append (pv 4) (pa_cons (pv 7) pa_nil))))
 pss_nil))))))))
 (pss_one (ps_ret (pe_cmpR op_eq (pv 5) (pe_callB call_lenD (by rfl) T.b_len (by decide +kernel) (pa_cons (pv 1) pa_nil)) (nomark _)))))))))), ?_⟩
    refine fun d hd e he => ?_
    have nde : d ≠ e := ne_of_none upd_same he
    have he0 : H e = none := by rw [upd_ne nde.symm] at he; exact he
    have s2 : Same H (upd (upd H d (.dK [])) e (.dK [])) := Same.put (Same.new hd) he0
    have d2 : upd (upd H d (.dK [])) e (.dK []) d = some (.dK []) := (upd_ne nde).trans upd_same
    have e2 : upd (upd H d (.dK [])) e (.dK []) e = some (.dK []) := upd_same
    refine gen_st (H0 := upd (upd H d (.dK [])) e (.dK [])) (Gd := fun Hx => Same H Hx ∧ Hx d = some (.dK []) ∧ Hx e = some (.dK [])) ⟨s2, d2, e2⟩ ?_
    rintro H1 ⟨s1, d1, e1⟩
    have M1 := M.same s1
    refine ⟨_, rfl, a, _, 3, _, rfl, rfl, SqT.of M1.top, rfl, a3, rfl, ⟨_, SqT.of M1.ms⟩, for_it walk_tup (fun i σ H2 => ∃ v : Option V, σ = [some (.ref a), some (.ref d), some (.ref e), v, none, none, none, none] ∧ H2 = H1) ⟨none, rfl, rfl⟩ (fun i σ H1 _ h => by obtain ⟨_, _, rfl⟩ := h; exact SqT.of M1.ms) ?_ ?_⟩
    · rintro i x σ H2 H3 hi ⟨v, rfl, rfl⟩ ⟨rfl, hx⟩
      obtain ⟨x, b, hm, rfl, hb⟩ := M1.move hx
      have hp := hp x (List.mem_of_getElem? hm)
      refine ⟨_, rfl, b, _, 3, _, rfl, rfl, SqT.of hb, rfl, rfl, _, rfl, ite2 (fun h => ?_) (fun h => ?_)⟩
      · exact absurd (by simpa using h) hp
      · exact ⟨_, rfl, rfl⟩
    rintro σ H2 ⟨v, rfl, rfl⟩
    refine ⟨d, .dK [], d1, True.intro, fun od => ⟨_, rfl, d, od, rfl, .inl ⟨[], upd_same, fun D hD => ?_⟩⟩⟩
    refine lc_it walk_keys (fun i H => i = 0 ∧ H = upd (upd H2 d (.frz od (.dK []))) D (.lst [])) ⟨rfl, rfl⟩ (fun i H _ h => by rw [h.2, upd_ne (ne_of_none upd_same hD)]; exact upd_same) (fun i x H H' hi => absurd hi (Nat.not_lt_zero i)) ?_
    rintro H3 ⟨_, rfl⟩
    have ndD : d ≠ D := ne_of_none upd_same hD
    have hD0 : H D = none := by
      cases x : H D with
      | none => rfl
      | some o => rw [upd_ne ndD.symm, s1 _ _ x] at hD; cases hD
    have s5 : Same H (upd (upd (upd H2 d (.frz od (.dK []))) D (.lst [])) d (.dK [])) := Same.put (Same.put (Same.put s1 hd) hD0) hd
    have d5 : upd (upd (upd H2 d (.frz od (.dK []))) D (.lst [])) d (.dK []) d = some (.dK []) := upd_same
    refine ⟨(upd_ne ndD).trans upd_same, ?_⟩
    refine ⟨_, rfl, d, [], rfl, d5, _, rfl, by simp, by simp, for_it walk_range (fun i σ Hz => i = 0 ∧ σ = [some (.ref a), some (.ref d), some (.ref e), v, some (.ref D), some (.int 0), none, none] ∧ Hz = (upd (upd (upd H2 d (.frz od (.dK []))) D (.lst [])) d (.dK []))) ⟨rfl, rfl, rfl⟩ (fun _ _ _ _ _ => trivial) (fun i x σ H H' hi => absurd hi (Nat.not_lt_zero i)) ?_⟩
    rintro σ H3 ⟨_, rfl, rfl⟩
    exact ⟨_, rfl, _, rfl, d, [], rfl, d5, rfl, k _ s5⟩
end
end N1
set_option Elab.async false
set_option linter.all false
set_option maxRecDepth 100000
namespace N1
open PySem PySem.Spec PyProof.Rows L2 TL
/-- a move's key -/
def mkk (x : Mv) : List Key := [.inl x.1, .inr x.2.1]
def TabOk (H : Hp) (T : Addr) (ms : List Mv) : Prop := ∃ kvs : List (List Key × V), H T = some (.dT kvs) ∧ kvs.length ≤ ms.length ∧
  (∀ x ∈ ms, ∃ l u : Addr, valV kvs (mkk x) = some (.ref l) ∧ H l = some (.lst [.ref u]) ∧ H u = some (.tup [.int x.2.2.1, .int x.2.2.2])) ∧ ∀ k, (∀ x ∈ ms, mkk x ≠ k) → valV kvs k = none
theorem TabOk.same {H H' : Hp} {T : Addr} {ms : List Mv} (h : TabOk H T ms) (s : Same H H') : TabOk H' T ms := by
  obtain ⟨kvs, h1, h2, h3, h4⟩ := h
  refine ⟨kvs, s _ _ h1, h2, fun x hx => ?_, h4⟩
  obtain ⟨l, u, a, b, c⟩ := h3 x hx
  exact ⟨l, u, a, s _ _ b, s _ _ c⟩
theorem none_back {H H' : Hp} {a : Addr} (s : Same H H') (h : H' a = none) : H a = none := by
  cases x : H a with
  | none => rfl
  | some o => rw [s _ _ x] at h; cases h
theorem pair_at {α : Type} {R : α → α → Prop} {l : List α} {i : Nat} {x : α} (pw : l.Pairwise R) (h : l[i]? = some x) : ∀ y ∈ l.take i, R y x := by
  have e := List.take_append_drop i l
  rw [← e, List.pairwise_append] at pw
  exact fun y hy => pw.2.2 y hy x (by rw [drop_at h]; exact List.mem_cons_self)
section
variable {P : Program} {w : World} {K : PySem.W.Frag} {mg : Str → Option Value} {base : Heap}
/-! ### _law_table -/
def sp_table : Sp := fun vs H Q _ => ∃ (v : V) (m : Mc), vs = [v] ∧ Im H v (mcD m) ∧ m.ms.Pairwise (fun a b => mkk a ≠ mkk b) ∧ m.ms.length ≤ 100000 ∧ ∀ T H', Same H H' → TabOk H' T m.ms → Q (.ref T) H'
abbrev s_law_table : Stmt := topS 22
theorem sc_law_table : FnScope ["machine", "table", "move"] ["machine"] (defScope s_law_table) := ⟨rfl, rfl, rfl, by decide +kernel, rfl, by decide +kernel, by decide +kernel⟩
theorem ok_law_table {f : Addr} {fd : FuncData} (F : Fun K "_law_table" "_law_table" s_law_table f fd) (T : Txt mg) : FnOk P w K mg base CX0 1 f fd ["machine"] sp_table := by
  refine F.ok sc_law_table (fun vs H Q E h => ?_) (fun cdv A outer s0 H vs Q E hr h => ?_)
  · obtain ⟨a, ns, rfl, _⟩ := h
    rfl
  · obtain ⟨v, m, rfl, hv, pw, hlen, k⟩ := h
    have hu := hu_of hr
    obtain ⟨a, a1, a2, a3, xs, rfl, M⟩ := mc_of hv
    refine ⟨_, (pss_cons (ps_set (i := 1) sc_law_table.nd rfl (Or.inl rfl) pe_dnewT)
 (pss_cons (ps_for PassesOwn.never rfl (pi_tup (pe_ix ix_tup (pv 0) pe_int (fun _ _ => rfl))) (pg_name (i := 2) sc_law_table.nd rfl (Or.inl rfl))
 (pss_one (ps_expr (pe_bm PySem.F.plainAttrs_list PySem.F.slot_list_append PySem.F.type_list_append mt_append (pe_dsetdT hu (pv 1) (pe_tup (pa_cons (pe_ix ix_tup (pv 2) pe_int (fun _ _ => rfl)) (pa_cons (pe_ix ix_tup (pv 2) pe_int (fun _ _ => rfl)) pa_nil))) (pe_lst pa_nil) ⟨by rfl, by rfl, by rfl, by rfl⟩) (pa_cons (pe_tup (pa_cons (pe_ix ix_tup (pv 2) pe_int (fun _ _ => rfl)) (pa_cons (pe_ix ix_tup (pv 2) pe_int (fun _ _ => rfl)) pa_nil))) pa_nil)))))
 (pss_one (ps_ret (pv 1))))), ?_⟩
    refine fun d hd => ?_
    have s1 : Same H (upd H d (.dT [])) := Same.new hd
    have M1 := M.same s1
    refine ⟨_, rfl, a, _, 3, _, rfl, rfl, SqT.of M1.top, rfl, a3, rfl, ⟨_, SqT.of M1.ms⟩, for_it walk_tup (fun i σ H2 => ∃ v : Option V, σ = [some (.ref a), some (.ref d), v] ∧ Same H H2 ∧ TabOk H2 d (m.ms.take i)) ⟨none, rfl, s1, [], upd_same, Nat.zero_le _, by simp, fun _ _ => rfl⟩ (fun i σ H1 _ h => by obtain ⟨_, _, s, _⟩ := h; exact SqT.of (M.same s).ms) ?_ ?_⟩
    · rintro i x σ H2 H3 hi ⟨v, rfl, s2, kvs, t1, t2, t3, t4⟩ ⟨rfl, hx⟩
      obtain ⟨x, b, hm, rfl, hb⟩ := (M.same s2).move hx
      refine ⟨_, rfl, d, rfl, .inr ⟨kvs, .inl t1⟩, _, rfl, b, _, 0, _, rfl, rfl, SqT.of hb, rfl, _, rfl, b, _, 1, _, rfl, rfl, SqT.of hb, rfl, small5 (by simp), fun c hc => ?_⟩
      have ndc : d ≠ c := ne_of_none t1 hc
      refine ⟨Nat.zero_le _, fun l hl => ?_⟩
      have ncl : c ≠ l := ne_of_none upd_same hl
      have ndl : d ≠ l := ne_of_none ((upd_ne ndc).trans t1) hl
      have hl2 : H3 l = none := by rw [upd_ne ncl.symm] at hl; exact hl
      have hnk : valV kvs (mkk x) = none := t4 _ (pair_at pw hm)
      have hik : i < m.ms.length := (List.getElem?_eq_some_iff.mp hm).1
      have hkl : kvs.length < sizeLine := small5' (by have := List.length_take_le i m.ms; omega)
      refine ⟨kvs, mkk x, c, (upd_ne ndl).trans ((upd_ne ndc).trans t1), rfl, (upd_ne ncl).trans upd_same, hkl, ⟨fun v hv => absurd (hnk.symm.trans hv) (by simp), fun _ => ?_⟩⟩
      have q1 : Kp [d] H3 (upd (upd (upd H3 c (.tup [V.int x.1, V.str x.2.1])) l (.lst [])) d (.dT (putK kvs (mkk x) (.ref l)))) := (((Kp.refl _ H3).put (.inl hc)).put (.inl hl2)).put (.inr (by simp))
      have lk : (upd (upd (upd H3 c (.tup [V.int x.1, V.str x.2.1])) l (.lst [])) d (.dT (putK kvs (mkk x) (.ref l)))) l = some (.lst []) := (upd_ne ndl.symm).trans upd_same
      have dk : (upd (upd (upd H3 c (.tup [V.int x.1, V.str x.2.1])) l (.lst [])) d (.dT (putK kvs (mkk x) (.ref l)))) d = _ := upd_same
      have s5 : Same H (upd (upd (upd H3 c (.tup [V.int x.1, V.str x.2.1])) l (.lst [])) d (.dT (putK kvs (mkk x) (.ref l)))) := Same.put (Same.put (Same.put s2 (none_back s2 hc)) (none_back s2 hl2)) hd
      refine gen_st (H0 := upd (upd (upd H3 c (.tup [V.int x.1, V.str x.2.1])) l (.lst [])) d (.dT (putK kvs (mkk x) (.ref l)))) (Gd := fun Hx => Same H Hx ∧ Kp [d] H3 Hx ∧ Hx l = some (.lst []) ∧ Hx d = some (.dT (putK kvs (mkk x) (.ref l)))) ⟨s5, q1, lk, dk⟩ ?_
      rintro H4 ⟨s4, q4, l4, d4⟩
      have nbd : b ≠ d := ne_of hb t1 (by intro z; cases z)
      have hb4 := q4 _ _ hb (by simp [nbd])
      refine ⟨.inl ⟨rfl, _, SqL.of l4⟩, _, rfl, b, _, 2, _, rfl, rfl, SqT.of hb4, rfl, _, rfl, b, _, 3, _, rfl, rfl, SqT.of hb4, rfl, small5 (by simp), fun u hu => ?_⟩
      have nlu : l ≠ u := ne_of_none l4 hu
      have ndu : d ≠ u := ne_of_none d4 hu
      refine ⟨l, [], _, rfl, rfl, (upd_ne nlu).trans l4, small5' (by decide), ?_⟩
      have hu3 : H3 u = none := q4.none_of hu (by simp [ndu.symm])
      have q5 : Kp [d] H3 (upd (upd H4 u (.tup [V.int x.2.2.1, V.int x.2.2.2])) l (.lst ([] ++ [.ref u]))) := (q4.put (.inl hu3)).put (.inl hl2)
      refine ⟨_, rfl, Same.put (Same.put s4 (none_back s2 hu3)) (none_back s2 hl2), putK kvs (mkk x) (.ref l), (upd_ne ndl).trans ((upd_ne ndu).trans d4), ?_, ?_, ?_⟩
      · have := length_putK kvs (mkk x) (.ref l)
        rw [List.take_succ, hm]
        simp only [Option.toList, List.length_append, List.length_cons, List.length_nil]
        omega
      · rw [List.take_succ, hm]
        intro y hy
        rcases List.mem_append.mp hy with h | h
        · obtain ⟨l', u', f1, f2, f3⟩ := t3 y h
          refine ⟨l', u', ?_, q5 _ _ f2 (by simp [ne_of f2 t1 (by intro z; cases z)]), q5 _ _ f3 (by simp [ne_of f3 t1 (by intro z; cases z)])⟩
          rw [valV_put, if_neg (pair_at pw hm y h), f1]
        · obtain rfl : y = x := by simpa using h
          exact ⟨l, u, by rw [valV_put, if_pos rfl], upd_same, (upd_ne nlu.symm).trans upd_same⟩
      · intro kk hk
        rw [List.take_succ, hm] at hk
        rw [valV_put, if_neg (fun e => hk x (by simp) e.symm), t4 kk fun y hy => hk y (List.mem_append_left _ hy)]
    · rintro σ H2 ⟨v, rfl, s2, ht⟩
      rw [M.len, List.take_length] at ht
      exact ⟨_, rfl, k d H2 s2 ht⟩
end
end N1
set_option Elab.async false
set_option linter.all false
set_option maxRecDepth 100000
namespace N1
open PySem PySem.Spec PyProof.Rows L2 TL
/-- the least prices: none or of one state -/
def bk : Option (Int × Int) → List (Key × V)
  | none => []
  | some (s, p) => [(.inl s, .int p)]
theorem bk_len (o : Option (Int × Int)) : (bk o).length ≤ 1 := by cases o <;> simp [bk]
theorem bk_at {o : Option (Int × Int)} {i : Nat} {k : Key} {v : V} (h : (bk o)[i]? = some (k, v)) : ∃ s p, o = some (s, p) ∧ i = 0 ∧ k = .inl s ∧ v = .int p := by
  cases o with
  | none => simp [bk] at h
  | some q =>
    obtain ⟨s, p⟩ := q
    cases i with
    | zero =>
      have h : some ((Sum.inl s, V.int p) : Key × V) = some (k, v) := h
      obtain ⟨h1, h2⟩ := Prod.mk.inj (Option.some.inj h)
      exact ⟨s, p, rfl, rfl, h1.symm, h2.symm⟩
    | succ n => simp [bk] at h
theorem same_back {H H3 : Hp} {b : Addr} {u f : HO} (h : H b = some u) (s : Same (upd H b f) H3) : Same H (upd H3 b u) := fun c o e => by
  by_cases hc : c = b
  · subst hc
    rw [h] at e
    rw [upd_same, e]
  · rw [upd_ne hc]
    exact s c o (by rw [upd_ne hc]; exact e)
section
variable {P : Program} {w : World} {K : PySem.W.Frag} {mg : Str → Option Value} {base : Heap}
/-! ### _law_skips -/
def sp_skips : Sp := fun vs H Q _ => ∃ (T b : Addr) (many : Int) (ms : List Mv) (o : Option (Int × Int)), vs = [.ref T, .ref b, .int many] ∧ TabOk H T ms ∧ (∀ x ∈ ms, x.2.1 ≠ Str.ofString "") ∧ H b = some (.dK (bk o)) ∧ 0 ≤ many ∧ many ≤ 100000 ∧
  ∀ H', Same H H' → Q (.ref b) H'
abbrev s_law_skips : Stmt := topS 23
theorem sc_law_skips : FnScope ["table", "best", "many", "changed", "k", "later", "state", "end"] ["table", "best", "many"] (defScope s_law_skips) := ⟨rfl, rfl, rfl, by decide +kernel, rfl, by decide +kernel, by decide +kernel⟩
theorem ok_law_skips {f : Addr} {fd : FuncData} (F : Fun K "_law_skips" "_law_skips" s_law_skips f fd) (T : Txt mg) : FnOk P w K mg base CX0 1 f fd ["table", "best", "many"] sp_skips := by
  refine F.ok sc_law_skips (fun vs H Q E h => ?_) (fun cdv A outer s0 H vs Q E hr h => ?_)
  · obtain ⟨a, ns, p, q, r, rfl, _⟩ := h
    rfl
  · obtain ⟨t, b, m, ms, o, rfl, ht, hms, hb, m0, m1, k⟩ := h
    have hu := hu_of hr
    refine ⟨_, (pss_cons (ps_lock (ps_setLc (i := 3) (own := [("state", 6)]) (g := gName 6) rfl sc_law_skips.nd rfl rfl (sw_true rfl rfl rfl (by decide +kernel)) (pi_keys (pv 1)) (blkOk_by (own := [("state", 6)]) (N := ["table", "best", "many", "changed", "k", "later", "state", "end"]) (sc := defScope s_law_skips) (by decide +kernel)) (fun _ _ _ _ _ => pg_name (i := 6) sc_law_skips.nd rfl (Or.inl rfl)) (fun _ _ _ _ _ => pts_nil) (fun _ _ _ _ _ => (pv 6))))
 (pss_cons (ps_for PassesOwn.never rfl (pi_range1 (by rfl) T.b_range (pa_cons (pe_op op_add (pv 2) pe_int) pa_nil)) (pg_name (i := 4) sc_law_skips.nd rfl (Or.inl rfl))
 (pss_cons (ps_set (i := 5) sc_law_skips.nd rfl (Or.inl rfl) (pe_lst pa_nil))
 (pss_cons (ps_for PassesOwn.never rfl (pi_list (pv 3)) (pg_name (i := 6) sc_law_skips.nd rfl (Or.inl rfl))
 (pss_one (ps_for PassesOwn.never rfl (pi_list (pe_dget2 hu (pv 0) (pe_tup (pa_cons (pv 6) (pa_cons pe_str pa_nil))) (pe_lst pa_nil) ⟨by rfl, by rfl, by rfl, by rfl⟩)) (pg_name (i := 7) sc_law_skips.nd rfl (Or.inl rfl))
 (pss_one (ps_if (PW.pt (pw_or (pt_cmp (pc_dnotin hu (pe_ix ix_tup (pv 7) pe_int (fun _ _ => rfl)) (pv 1))) (pw_or1 (pt_cmpR op_lt (pe_op op_add (pe_dget hu (pv 1) (pv 6) (fun _ _ => rfl)) (pe_ix ix_tup (pv 7) pe_int (fun _ _ => rfl))) (pe_dget hu (pv 1) (pe_ix ix_tup (pv 7) pe_int (fun _ _ => rfl)) (fun _ _ => rfl)) (nomark _)))))
 (pss_cons (ps_dput hu (pv 1) (pe_ix ix_tup (pv 7) pe_int (fun _ _ => rfl)) (pe_op op_add (pe_dget hu (pv 1) (pv 6) (fun _ _ => rfl)) (pe_ix ix_tup (pv 7) pe_int (fun _ _ => rfl))) rfl)
 (pss_one (ps_expr (pe_bm PySem.F.plainAttrs_list PySem.F.slot_list_append PySem.F.type_list_append mt_append (pv 5) (pa_cons (pe_ix ix_tup (pv 7) pe_int (fun _ _ => rfl)) pa_nil)))))
 pss_nil)))))
 (pss_cons (ps_set (i := 3) sc_law_skips.nd rfl (Or.inl rfl) (pv 5))
 (pss_one (ps_if (pt_not (pt_truth (pv 3) (by intro _; rfl)))
 (pss_one ps_break)
 pss_nil))))))
 (pss_one (ps_ret (pv 1))))), ?_⟩
    refine ⟨b, .dK (bk o), hb, True.intro, fun od => ⟨_, rfl, b, od, rfl, .inl ⟨bk o, upd_same, fun D hD => ?_⟩⟩⟩
    refine lc_same1 walk_keys hD (fun i ds => ∃ cs : List Int, ds = cs.map PyData.int ∧ cs.length = i) ⟨[], rfl, rfl⟩ (fun H2 s => s _ _ upd_same) (fun i H x H' y => by rw [y.1]; exact Same.refl H) (Nat.le_trans (bk_len o) (by decide)) ?_ ?_
    · rintro i x H3 H4 ds hi s4 s5 ⟨cs, rfl, lcs⟩ ⟨rfl, kk, vv, hx, rfl⟩ K1 k1
      obtain ⟨s, p, rfl, _, rfl, rfl⟩ := bk_at hx
      exact ⟨rfl, _, rfl, k1 _ _ (.int s) (Same.refl _) (.int s) ⟨cs ++ [s], by simp, by simp [lcs]⟩⟩
    · rintro H3 ys ds s4 hl hI ⟨cs, rfl, lcs⟩
      have ey := Ims.ints_of hI
      subst ey
      have nDb : D ≠ b := fun e => by rw [e, upd_same] at hD; cases hD
      refine ⟨s4 _ _ upd_same, ?_⟩
      have s6 : Same H (upd H3 b (.dK (bk o))) := same_back hb s4
      have h6 : upd H3 b (.dK (bk o)) D = some (.lst (cs.map V.int)) := (upd_ne nDb).trans hl
      generalize upd H3 b (.dK (bk o)) = H6 at s6 h6 ⊢
      refine ⟨_, rfl, _, _, rfl, rfl, _, rfl, by omega, by omega, for_it walk_range (fun i σ Hx => ∃ (q : Addr) (cs : List Int) (v4 v5 v6 v7 : Option V), σ = [some (.ref t), some (.ref b), some (.int m), some (.ref q), v4, v5, v6, v7] ∧ Same H Hx ∧ Hx q = some (.lst (cs.map V.int))) ⟨D, cs, none, none, none, none, rfl, s6, h6⟩ (fun _ _ _ _ _ => trivial) ?_ ?_⟩
      · rintro i x σ H7 H8 hi ⟨q, cs, v4, v5, v6, v7, rfl, s7, h7⟩ ⟨rfl, rfl⟩
        refine ⟨Nat.zero_le _, fun r hr => ?_⟩
        have nqr : q ≠ r := ne_of_none h7 hr
        refine ⟨_, rfl, q, rfl, ⟨_, SqL.of ((upd_ne nqr).trans h7)⟩, for_it walk_list (fun j σ Hx => ∃ (v6 v7 : Option V), σ = [some (.ref t), some (.ref b), some (.int m), some (.ref q), some (.int (0 + (i : Int))), some (.ref r), v6, v7] ∧ Same H Hx ∧ Hx q = some (.lst (cs.map V.int)) ∧ Hx r = some (.lst [])) ⟨v6, v7, rfl, Same.put s7 (none_back s7 hr), (upd_ne nqr).trans h7, upd_same⟩ (fun i σ H1 _ h => by obtain ⟨_, _, _, _, h, _⟩ := h; exact SqL.of h) ?_ ?_⟩
        · rintro j x σ H9 H10 hj ⟨v6, v7, rfl, s9, q9, r9⟩ ⟨rfl, hx⟩
          obtain ⟨z, hz, rfl⟩ := ints_at hx
          obtain ⟨kvs, t1, t2, t3, t4⟩ := ht.same s9
          refine ⟨_, rfl, t, rfl, .inr ⟨kvs, .inl t1⟩, _, rfl, small5 (by simp), fun c hc => ⟨Nat.zero_le _, fun e he => ⟨none, ?_, ?_⟩⟩⟩
          · have ntc : t ≠ c := ne_of_none t1 hc
            have nce : c ≠ e := ne_of_none upd_same he
            have nte : t ≠ e := ne_of_none ((upd_ne ntc).trans t1) he
            exact DGet.ofT (k := [.inl z, .inr (Str.ofString "")]) ((upd_ne nte).trans ((upd_ne ntc).trans t1)) ((upd_ne nce).trans upd_same) (t4 _ fun x hx e => hms x hx (Sum.inr.inj (List.cons.inj (List.cons.inj e).2).1))
          · have nce : c ≠ e := ne_of_none upd_same he
            have hc0 := none_back s9 hc
            have he0 : H e = none := none_back s9 (by rw [upd_ne nce.symm] at he; exact he)
            refine ⟨e, rfl, ⟨_, SqL.of upd_same⟩, ?_⟩
            have nqe : q ≠ e := ne_of_none ((upd_ne (ne_of_none q9 hc)).trans q9) he
            have nre : r ≠ e := ne_of_none ((upd_ne (ne_of_none r9 hc)).trans r9) he
            refine for_it (walk_list (xs := [])) (fun j0 σ Hx => j0 = 0 ∧ (∃ v7 : Option V, σ = [some (.ref t), some (.ref b), some (.int m), some (.ref q), some (.int (0 + (i : Int))), some (.ref r), some (.int z), v7]) ∧ Hx e = some (.lst []) ∧ Same H Hx ∧ Hx q = some (.lst (cs.map V.int)) ∧ Hx r = some (.lst [])) ⟨rfl, ⟨_, rfl⟩, upd_same, Same.put (Same.put s9 hc0) he0, (upd_ne nqe).trans ((upd_ne (ne_of_none q9 hc)).trans q9), (upd_ne nre).trans ((upd_ne (ne_of_none r9 hc)).trans r9)⟩ (fun i σ H1 _ h => SqL.of h.2.2.1) (fun i x σ H H' hi => absurd hi (Nat.not_lt_zero i)) ?_
            rintro σ H11 ⟨_, ⟨v7, rfl⟩, _, f1, f2, f3⟩
            exact ⟨_, _, rfl, f1, f2, f3⟩
        · rintro σ H9 ⟨v6, v7, rfl, s9, q9, r9⟩
          refine ⟨_, rfl, ?_⟩
          refine ⟨_, rfl, _, .inl ⟨_, SqL.of r9, rfl⟩, ite2 (fun _ => ?_) (fun h => absurd rfl h)⟩
          exact ⟨_, rfl, k _ s9⟩
      · rintro σ H9 ⟨q, cs, v4, v5, v6, v7, rfl, s9, q9⟩
        exact ⟨_, rfl, k _ s9⟩
end
end N1
set_option Elab.async false
set_option linter.all false
set_option maxRecDepth 100000
namespace N1
open PySem PySem.Spec PyProof.Rows L2 TL
/-- the moves say what δ says, each at price 1 -/
structure DetM (ms : List Mv) (δ : Int → Nat → Option Int) : Prop where
  yes : ∀ s c t, δ s c = some t → ((s, sg c, t, 1) : Mv) ∈ ms
  no : ∀ s c, δ s c = none → ∀ x ∈ ms, ¬ (x.1 = s ∧ x.2.1 = sg c)
def stD (δ : Int → Nat → Option Int) (o : Option (Int × Int)) (c : Nat) : Option (Int × Int) := o.bind fun q => (δ q.1 c).map fun t => (t, q.2 + 1)
def runD (δ : Int → Nat → Option Int) (cs : List Nat) (o : Option (Int × Int)) : Option (Int × Int) := cs.foldl (stD δ) o
def accD (en : List Int) (o : Option (Int × Int)) : Option Int := o.bind fun q => if q.1 ∈ en then some q.2 else none
theorem runD_succ {δ : Int → Nat → Option Int} {cs : List Nat} {o : Option (Int × Int)} {i c : Nat} (h : cs[i]? = some c) : runD δ (cs.take (i + 1)) o = stD δ (runD δ (cs.take i) o) c := by
  unfold runD
  rw [List.take_succ, h, List.foldl_append]
  rfl
theorem bk_put {o : Option (Int × Int)} (s p : Int) (h : o = none) : putK (bk o) (.inl s) (.int p) = bk (some (s, p)) := by
  subst h
  exact putK_new _ rfl
theorem valV_bk (s p : Int) : valV (bk (some (s, p))) (.inl s) = some (.int p) := valV_pos rfl
theorem valV_bk_ne {s p z : Int} (h : z ≠ s) : valV (bk (some (s, p))) (.inl z) = none := (valV_neg fun e => h (Sum.inl.inj e).symm).trans rfl
section
variable {P : Program} {w : World} {K : PySem.W.Frag} {mg : Str → Option Value} {base : Heap}
/-! ### _law_price -/
def sp_price : Sp := fun vs H Q _ => ∃ (v : V) (t : Addr) (tx : Str) (m : Mc) (δ : Int → Nat → Option Int), vs = [v, .ref t, .str tx] ∧ Im H v (mcD m) ∧ TabOk H t m.ms ∧ (∀ x ∈ m.ms, x.2.1 ≠ Str.ofString "") ∧ m.st = [0] ∧ 0 ≤ m.n ∧ m.n ≤ 100000 ∧
  DetM m.ms δ ∧ ∀ H', Same H H' → Q (foV (accD m.en (runD δ (tl tx) (some (0, 0))))) H'
abbrev s_law_price : Stmt := topS 24
theorem sc_law_price : FnScope ["machine", "table", "text", "best", "state", "sign", "least", "after", "end"] ["machine", "table", "text"] (defScope s_law_price) := ⟨rfl, rfl, rfl, by decide +kernel, rfl, by decide +kernel, by decide +kernel⟩
theorem ok_law_price {f : Addr} {fd : FuncData} (F : Fun K "_law_price" "_law_price" s_law_price f fd) (T : Txt mg) (D_law_skips : Df P w K mg base 1 "_law_skips" ["table", "best", "many"] sp_skips) :
    FnOk P w K mg base CX0 2 f fd ["machine", "table", "text"] sp_price := by
  refine F.ok sc_law_price (fun vs H Q E h => ?_) (fun cdv A outer s0 H vs Q E hr h => ?_)
  · obtain ⟨a, ns, p, q, r, rfl, _⟩ := h
    rfl
  · obtain ⟨v, t, tx, m, δ, rfl, hv, ht, hms, hst, n0, n1, hδ, k⟩ := h
    have hu := hu_of hr
    obtain ⟨a, a1, a2, a3, xs, rfl, M⟩ := mc_of hv
    refine ⟨_, (pss_cons (ps_set (i := 3) sc_law_price.nd rfl (Or.inl rfl) pe_dnewK)
 (pss_cons (ps_for PassesOwn.never rfl (pi_tup (pe_ix ix_tup (pv 0) pe_int (fun _ _ => rfl))) (pg_name (i := 4) sc_law_price.nd rfl (Or.inl rfl))
 (pss_one (ps_dput hu (pv 3) (pv 4) pe_int rfl)))
 (pss_cons (ps_set (i := 3) sc_law_price.nd rfl (Or.inl rfl) (pe_d D_law_skips hr rfl (pa_cons (pv 1) (pa_cons (pv 3) (pa_cons (pe_ix ix_tup (pv 0) pe_int (fun _ _ => rfl)) pa_nil)))))
 (pss_cons (ps_for PassesOwn.never rfl (pi_str (pv 2)) (pg_name (i := 5) sc_law_price.nd rfl (Or.inl rfl))
 (pss_cons (ps_set (i := 7) sc_law_price.nd rfl (Or.inl rfl) pe_dnewK)
 (pss_cons (ps_lock (ps_for PassesOwn.never rfl (pi_keys (pv 3)) (pg_name (i := 4) sc_law_price.nd rfl (Or.inl rfl))
 (pss_one (ps_for PassesOwn.never rfl (pi_list (pe_dget2 hu (pv 1) (pe_tup (pa_cons (pv 4) (pa_cons (pv 5) pa_nil))) (pe_lst pa_nil) ⟨by rfl, by rfl, by rfl, by rfl⟩)) (pg_name (i := 8) sc_law_price.nd rfl (Or.inl rfl))
 (pss_one (ps_if (PW.pt (pw_or (pt_cmp (pc_dnotin hu (pe_ix ix_tup (pv 8) pe_int (fun _ _ => rfl)) (pv 7))) (pw_or1 (pt_cmpR op_lt (pe_op op_add (pe_dget hu (pv 3) (pv 4) (fun _ _ => rfl)) (pe_ix ix_tup (pv 8) pe_int (fun _ _ => rfl))) (pe_dget hu (pv 7) (pe_ix ix_tup (pv 8) pe_int (fun _ _ => rfl)) (fun _ _ => rfl)) (nomark _)))))
 (pss_one (ps_dput hu (pv 7) (pe_ix ix_tup (pv 8) pe_int (fun _ _ => rfl)) (pe_op op_add (pe_dget hu (pv 3) (pv 4) (fun _ _ => rfl)) (pe_ix ix_tup (pv 8) pe_int (fun _ _ => rfl))) rfl))
 pss_nil))))))
 (pss_one (ps_set (i := 3) sc_law_price.nd rfl (Or.inl rfl) (pe_d D_law_skips hr rfl (pa_cons (pv 1) (pa_cons (pv 7) (pa_cons (pe_ix ix_tup (pv 0) pe_int (fun _ _ => rfl)) pa_nil)))))))))
 (pss_cons (ps_set (i := 6) sc_law_price.nd rfl (Or.inl rfl) pe_non)
 (pss_cons (ps_for PassesOwn.never rfl (pi_tup (pe_ix ix_tup (pv 0) pe_int (fun _ _ => rfl))) (pg_name (i := 4) sc_law_price.nd rfl (Or.inl rfl))
 (pss_one (ps_if (PW.pt (pw_and (pt_cmp (pc_din hu (pv 4) (pv 3))) (pw_and1 (PW.pt (pw_or (pt_cmpR op_isN (pv 6) pe_non (nomark _)) (pw_or1 (pt_cmpR op_lt (pe_dget hu (pv 3) (pv 4) (fun _ _ => rfl)) (pv 6) (nomark _))))))))
 (pss_one (ps_set (i := 6) sc_law_price.nd rfl (Or.inl rfl) (pe_dget hu (pv 3) (pv 4) (fun _ _ => rfl))))
 pss_nil)))
 (pss_one (ps_ret (pv 6))))))))), ?_⟩
    refine fun d hd => ?_
    have s1 : Same H (upd H d (.dK (bk none))) := Same.new hd
    have M1 := M.same s1
    refine ⟨_, rfl, a, _, 1, _, rfl, rfl, SqT.of M1.top, rfl, a1, rfl, ⟨_, SqT.of M1.st⟩, for_it walk_tup (fun i σ H2 => ∃ v : Option V, σ = [some (.ref a), some (.ref t), some (.str tx), some (.ref d), v, none, none, none, none] ∧ Same H H2 ∧ H2 d = some (.dK (bk (if i = 0 then none else some (0, 0))))) ⟨none, rfl, s1, upd_same⟩ (fun i σ H1 _ h => by obtain ⟨_, _, s, _⟩ := h; exact SqT.of (M.same s).st) ?_ ?_⟩
    · rintro i x σ H2 H3 hi ⟨v, rfl, s2, h2⟩ ⟨rfl, hx⟩
      rw [hst] at hi hx
      have hi0 : i = 0 := by simpa using hi
      subst hi0
      obtain rfl : V.int 0 = x := by simpa using hx
      refine ⟨_, rfl, _, rfl, d, _, rfl, .inl ⟨bk none, .inl 0, h2, rfl, small5' (by decide), rfl⟩, ?_⟩
      exact ⟨_, rfl, Same.put s2 hd, upd_same⟩
    rintro σ H2 ⟨v, rfl, s2, h2⟩
    rw [hst] at h2
    have h2 : H2 d = some (.dK (bk (some (0, 0)))) := h2
    have M2 := M.same s2
    refine ⟨_, rfl, _, rfl, _, rfl, a, _, 0, _, rfl, rfl, SqT.of M2.top, rfl, t, d, m.n, m.ms, some (0, 0), rfl, ht.same s2, hms, h2, n0, n1, fun H3 s3 => ?_⟩
    refine ⟨_, rfl, tx, rfl, for_it walk_str (fun i σ Hx => ∃ (d : Addr) (v4 v5 v7 v8 : Option V), σ = [some (.ref a), some (.ref t), some (.str tx), some (.ref d), v4, v5, none, v7, v8] ∧ H d = none ∧ Same H Hx ∧ Hx d = some (.dK (bk (runD δ ((tl tx).take i) (some (0, 0)))))) ⟨d, v, none, none, none, rfl, hd, s2.trans s3, s3 _ _ h2⟩ (fun _ _ _ _ _ => trivial) ?_ ?_⟩
    · rintro i x σ H4 H5 hi ⟨d, v4, v5, v7, v8, rfl, hd, s4, h4⟩ ⟨rfl, c, hc, rfl⟩
      rw [runD_succ (at_cps.mp hc)]
      generalize runD δ ((tl tx).take i) (some (0, 0)) = o at h4 ⊢
      refine fun e he => ?_
      have nde : d ≠ e := ne_of_none h4 he
      have he0 := none_back s4 he
      refine ⟨d, .dK (bk o), (upd_ne nde).trans h4, True.intro, fun od => ⟨_, rfl, d, od, rfl, .inl ⟨bk o, upd_same, ?_⟩⟩⟩
      have sL : Same H (upd (upd H5 e (.dK (bk none))) d (.frz od (.dK (bk o)))) := Same.put (Same.put s4 he0) hd
      refine for_it walk_keys (fun j σ Hx => ∃ v4 v8 : Option V, σ = [some (.ref a), some (.ref t), some (.str tx), some (.ref d), v4, some (.str (sg c)), none, some (.ref e), v8] ∧ Same H Hx ∧ Hx d = some (.frz od (.dK (bk o))) ∧ Hx e = some (.dK (bk (if j = 0 then none else stD δ o c)))) ⟨_, _, rfl, sL, upd_same, (upd_ne nde.symm).trans upd_same⟩ (fun i σ H1 _ h => by obtain ⟨_, _, _, _, h, _⟩ := h; exact h) ?_ ?_
      · rintro j x σ H6 H7 hj ⟨v4, v8, rfl, s6, d6, e6⟩ ⟨rfl, kk, vv, hx, rfl⟩
        obtain ⟨s, p, rfl, rfl, rfl, rfl⟩ := bk_at hx
        have e6 : H7 e = some (.dK (bk none)) := e6
        obtain ⟨kvs, t1, t2, t3, t4⟩ := ht.same s6
        cases hs : δ s c with
        | none =>
          refine ⟨_, rfl, t, rfl, .inr ⟨kvs, .inl t1⟩, _, rfl, _, rfl, small5 (by simp), fun g hg => ⟨Nat.zero_le _, fun f hf => ⟨none, ?_, ?_⟩⟩⟩
          · have ntg : t ≠ g := ne_of_none t1 hg
            have ngf : g ≠ f := ne_of_none upd_same hf
            have ntf : t ≠ f := ne_of_none ((upd_ne ntg).trans t1) hf
            exact DGet.ofT (k := [.inl s, .inr (sg c)]) ((upd_ne ntf).trans ((upd_ne ntg).trans t1)) ((upd_ne ngf).trans upd_same) (t4 _ fun x hx e => hδ.no s c hs x hx ⟨Sum.inl.inj (List.cons.inj e).1, Sum.inr.inj (List.cons.inj (List.cons.inj e).2).1⟩)
          · have ngf : g ≠ f := ne_of_none upd_same hf
            have hg0 := none_back s6 hg
            have hf0 : H f = none := none_back s6 (by rw [upd_ne ngf.symm] at hf; exact hf)
            have ndf : d ≠ f := ne_of_none ((upd_ne (ne_of_none d6 hg)).trans d6) hf
            have nef : e ≠ f := ne_of_none ((upd_ne (ne_of_none e6 hg)).trans e6) hf
            refine ⟨f, rfl, ⟨_, SqL.of upd_same⟩, ?_⟩
            refine for_it (walk_list (xs := [])) (fun j0 σ Hx => j0 = 0 ∧ (∃ v8 : Option V, σ = [some (.ref a), some (.ref t), some (.str tx), some (.ref d), some (.int s), some (.str (sg c)), none, some (.ref e), v8]) ∧ Hx f = some (.lst []) ∧ Same H Hx ∧ Hx d = some (.frz od (.dK (bk (some (s, p))))) ∧ Hx e = some (.dK (bk none))) ⟨rfl, ⟨_, rfl⟩, upd_same, Same.put (Same.put s6 hg0) hf0, (upd_ne ndf).trans ((upd_ne (ne_of_none d6 hg)).trans d6), (upd_ne nef).trans ((upd_ne (ne_of_none e6 hg)).trans e6)⟩ (fun i σ H1 _ h => SqL.of h.2.2.1) (fun i x σ H H' hi => absurd hi (Nat.not_lt_zero i)) ?_
            rintro σ H11 ⟨_, ⟨v7, rfl⟩, _, f1, f2, f3⟩
            refine ⟨_, _, rfl, f1, f2, ?_⟩
            rw [f3, show stD δ (some (s, p)) c = none by simp [stD, hs]]
            rfl
        | some tt =>
          obtain ⟨l, u, f1, f2, f3⟩ := t3 _ (hδ.yes s c tt hs)
          refine ⟨_, rfl, t, rfl, .inr ⟨kvs, .inl t1⟩, _, rfl, _, rfl, small5 (by simp), fun g hg => ⟨Nat.zero_le _, fun f hf => ⟨some (.ref l), ?_, ?_⟩⟩⟩
          · have ntg : t ≠ g := ne_of_none t1 hg
            have ngf : g ≠ f := ne_of_none upd_same hf
            have ntf : t ≠ f := ne_of_none ((upd_ne ntg).trans t1) hf
            exact DGet.ofT (k := [.inl s, .inr (sg c)]) ((upd_ne ntf).trans ((upd_ne ntg).trans t1)) ((upd_ne ngf).trans upd_same) f1
          · have ngf : g ≠ f := ne_of_none upd_same hf
            have hg0 := none_back s6 hg
            have hf1 : H7 f = none := by rw [upd_ne ngf.symm] at hf; exact hf
            have hf0 : H f = none := none_back s6 hf1
            have ss : Same H7 (upd (upd H7 g (.tup [.int s, .str (sg c)])) f (.lst [])) := Same.put (Same.new hg) hf1
            refine ⟨l, rfl, ⟨_, SqL.of (ss _ _ f2)⟩, ?_⟩
            refine for_it (walk_list (xs := [.ref u])) (fun j0 σ Hx => (∃ v8 : Option V, σ = [some (.ref a), some (.ref t), some (.str tx), some (.ref d), some (.int s), some (.str (sg c)), none, some (.ref e), v8]) ∧ Hx l = some (.lst [.ref u]) ∧ Hx u = some (.tup [.int tt, .int 1]) ∧ Same H Hx ∧ Hx d = some (.frz od (.dK (bk (some (s, p))))) ∧ Hx e = some (.dK (bk (if j0 = 0 then none else some (tt, p + 1))))) ⟨⟨_, rfl⟩, ss _ _ f2, ss _ _ f3, s6.trans ss, ss _ _ d6, ss _ _ e6⟩ (fun i σ H1 _ h => SqL.of h.2.1) ?_ ?_
            · rintro j0 x σ H8 H9 hj0 ⟨⟨v8, rfl⟩, l8, u8, s8, d8, e8⟩ ⟨rfl, hx⟩
              have hj1 : j0 = 0 := by simpa using hj0
              subst hj1
              obtain rfl : V.ref u = x := by simpa using hx
              have e8 : H9 e = some (.dK (bk none)) := e8
              refine q_or (b1 := true) (b2 := true) (fun Q' q => ⟨_, rfl, u, _, 0, _, rfl, rfl, SqT.of u8, rfl, _, rfl, e, none, rfl, .inl ⟨bk none, .inl tt, .inl e8, rfl, rfl⟩, _, rfl, q⟩) (fun h => by cases h) ?_
              refine ite2 (fun _ => ?_) (fun h => absurd rfl h)
              refine ⟨_, rfl, _, rfl, d, .int p, rfl, .inl ⟨bk (some (s, p)), .inl s, .inr ⟨od, d8⟩, rfl, (valV_bk s p).symm⟩, _, rfl, u, _, 1, _, rfl, rfl, SqT.of u8, rfl, _, _, rfl, rfl, ?_⟩
              refine ⟨_, rfl, _, rfl, u, _, 0, _, rfl, rfl, SqT.of u8, rfl, e, _, rfl, .inl ⟨bk none, .inl tt, e8, rfl, small5' (by decide), rfl⟩, ?_⟩
              have nel : l ≠ e := ne_of l8 e8 (by intro z; cases z)
              have neu : u ≠ e := ne_of u8 e8 (by intro z; cases z)
              refine ⟨⟨_, rfl⟩, (upd_ne nel).trans l8, (upd_ne neu).trans u8, Same.put s8 he0, (upd_ne nde).trans d8, ?_⟩
              rw [upd_same, bk_put tt (p + 1) rfl]
              rfl
            · rintro σ H8 ⟨⟨v8, rfl⟩, l8, u8, s8, d8, e8⟩
              refine ⟨_, _, rfl, s8, d8, ?_⟩
              rw [e8, show stD δ (some (s, p)) c = some (tt, p + 1) by simp [stD, hs]]
              rfl
      · rintro σ H6 ⟨v4, v8, rfl, s6, d6, e6⟩
        refine ⟨d6, ?_⟩
        have e7 : upd H6 d (.dK (bk o)) e = some (.dK (bk (stD δ o c))) := by
          rw [upd_ne nde.symm, e6]
          cases o with
          | none => rfl
          | some q => rfl
        have s7 : Same H (upd H6 d (.dK (bk o))) := Same.put s6 hd
        have M7 := M.same s7
        refine ⟨_, rfl, _, rfl, _, rfl, a, _, 0, _, rfl, rfl, SqT.of M7.top, rfl, t, e, m.n, m.ms, stD δ o c, rfl, ht.same s7, hms, e7, n0, n1, fun H8 s8 => ?_⟩
        exact ⟨e, _, _, _, _, rfl, he0, s7.trans s8, s8 _ _ e7⟩
    · rintro σ H4 ⟨d, v4, v5, v7, v8, rfl, hd, s4, h4⟩
      rw [List.take_of_length_le (by rw [← len_tl]; exact Nat.le_refl _)] at h4
      generalize runD δ (tl tx) (some (0, 0)) = o at h4 k
      have M4 := M.same s4
      refine ⟨_, rfl, a, _, 2, _, rfl, rfl, SqT.of M4.top, rfl, a2, rfl, ⟨_, SqT.of M4.en⟩, for_it walk_tup (fun i σ Hx => ∃ v4 : Option V, σ = [some (.ref a), some (.ref t), some (.str tx), some (.ref d), v4, v5, some (foV (accD (m.en.take i) o)), v7, v8] ∧ Hx = H4) ⟨v4, by rw [show accD (m.en.take 0) o = none by cases o <;> simp [accD]]; rfl, rfl⟩ (fun i σ H1 _ h => by obtain ⟨_, _, rfl⟩ := h; exact SqT.of M4.en) ?_ ?_⟩
      · rintro i x σ H5 H6 hi ⟨v4, rfl, rfl⟩ ⟨rfl, hx⟩
        obtain ⟨z, hz, rfl⟩ := ints_at hx
        have fin : ∀ s p, accD (m.en.take (i + 1)) (some (s, p)) = if s ∈ m.en.take i ∨ s = z then some p else none := fun s p => by
          unfold accD
          rw [List.take_succ, hz]
          simp
        have fin0 : ∀ s p, accD (m.en.take i) (some (s, p)) = if s ∈ m.en.take i then some p else none := fun s p => rfl
        have miss : valV (bk o) (.inl z) = none → (accD (m.en.take (i + 1)) o = accD (m.en.take i) o) := fun h => by
          cases o with
          | none => rfl
          | some q =>
            obtain ⟨s, p⟩ := q
            have hzs : s ≠ z := fun e => by rw [e, valV_bk] at h; cases h
            rw [fin, fin0]
            simp [hzs]
        cases hv : valV (bk o) (.inl z) with
        | none =>
          refine q_and (b1 := false) (b2 := false) (fun Q' q => ⟨_, rfl, _, rfl, d, none, rfl, .inl ⟨bk o, .inl z, .inl h4, rfl, hv.symm⟩, _, rfl, q⟩) (fun h => by cases h) ?_
          refine ite2 (fun h => by cases h) (fun _ => ?_)
          exact ⟨_, by rw [miss hv]; rfl, rfl⟩
        | some y =>
          have ho : ∃ p, o = some (z, p) := by
            cases o with
            | none => cases hv
            | some q =>
              obtain ⟨s, p⟩ := q
              by_cases e : z = s
              · subst e
                exact ⟨p, rfl⟩
              · rw [valV_bk_ne e] at hv
                cases hv
          obtain ⟨p, rfl⟩ := ho
          have hy : y = .int p := by rw [valV_bk] at hv; exact (Option.some.inj hv).symm
          subst hy
          have dg : DGet H6 d (kV (.inl z)) (some (.int p)) := .inl ⟨bk (some (z, p)), .inl z, .inl h4, rfl, hv.symm⟩
          by_cases hm : z ∈ m.en.take i
          · have e0 : accD (m.en.take i) (some (z, p)) = some p := by rw [fin0, if_pos hm]
            have e1 : accD (m.en.take (i + 1)) (some (z, p)) = some p := by rw [fin, if_pos (.inl hm)]
            rw [e0, e1]
            refine q_and (b1 := true) (b2 := false) (fun Q' q => ⟨_, rfl, _, rfl, d, _, rfl, dg, _, rfl, q⟩) (fun _ Q' q => ?_) ?_
            · refine q_or (b1 := false) (b2 := false) (fun Q' q => ⟨_, rfl, rfl, _, rfl, q⟩) (fun _ Q' q => ⟨_, rfl, _, rfl, d, _, rfl, dg, _, rfl, _, _, rfl, rfl, _, rfl, ?_⟩) q
              rw [decide_eq_false (Int.lt_irrefl p)]
              exact q
            · exact ite2 (fun h => by cases h) (fun _ => ⟨_, rfl, rfl⟩)
          · have e0 : accD (m.en.take i) (some (z, p)) = none := by rw [fin0, if_neg hm]
            have e1 : accD (m.en.take (i + 1)) (some (z, p)) = some p := by rw [fin, if_pos (.inr rfl)]
            rw [e0, e1]
            refine q_and (b1 := true) (b2 := true) (fun Q' q => ⟨_, rfl, _, rfl, d, _, rfl, dg, _, rfl, q⟩) (fun _ Q' q => ?_) ?_
            · exact q_or (b1 := true) (b2 := true) (fun Q' q => ⟨_, rfl, rfl, _, rfl, q⟩) (fun h => by cases h) q
            · exact ite2 (fun _ => ⟨_, rfl, _, rfl, d, _, rfl, dg, _, rfl, rfl⟩) (fun h => absurd rfl h)
      · rintro σ H5 ⟨v4, rfl, rfl⟩
        rw [List.length_map, List.take_length]
        exact ⟨_, rfl, k _ s4⟩
end
end N1
set_option Elab.async false
set_option linter.all false
set_option maxRecDepth 100000
namespace N1
open PySem PySem.Spec PyProof.Rows L2 TL
theorem key_lt {a a' : Int} {s s' : Str} (r r' : List PyData) (h : a < a' ∨ a = a' ∧ s.cps.toList < s'.cps.toList) : PySem.W.dataLt (.tuple (.int a :: .str s :: r)) (.tuple (.int a' :: .str s' :: r')) = true := by
  rw [PySem.W.dataLt_tuple, PySem.W.dataLt_cons (by simp [PySem.W.alike])]
  rcases h with h | ⟨rfl, h⟩
  · rw [if_neg (by simp [PyData.eqv]; omega), PySem.W.dataLt_int]
    exact decide_eq_true h
  · rw [if_pos (by simp [PyData.eqv]), PySem.W.dataLt_cons (by simp [PySem.W.alike]), if_neg ?_, PySem.W.dataLt_str]
    · exact decide_eq_true h
    · have hn : s ≠ s' := fun e => by subst e; exact absurd h (List.lt_irrefl _)
      simpa [PyData.eqv] using hn
theorem one_lt {c d : Nat} (h : c < d) : (sg c).cps.toList < (sg d).cps.toList := List.Lex.rel h
/-- order of the moves by state and sign -/
def mvlt (a b : Mv) : Prop := a.1 < b.1 ∨ (a.1 = b.1 ∧ ∃ c d, a.2.1 = sg c ∧ b.2.1 = sg d ∧ c < d)
theorem mvlt.key {a b : Mv} (h : mvlt a b) (r r' : List PyData) : PySem.W.dataLt (.tuple (.int a.1 :: .str a.2.1 :: r)) (.tuple (.int b.1 :: .str b.2.1 :: r')) = true := by
  refine key_lt r r' ?_
  rcases h with h | ⟨h1, c, d, h2, h3, h4⟩
  · exact .inl h
  · refine .inr ⟨h1, ?_⟩
    rw [h2, h3]
    exact one_lt h4
def okMv (n : Int) (x : Mv) : Prop := 0 ≤ x.1 ∧ x.1 < n ∧ 0 ≤ x.2.2.1 ∧ x.2.2.1 < n ∧ x.2.2.2 = 1 ∧ ∃ c ∈ sigs, x.2.1 = sg c
structure GoodM (m : Mc) : Prop where
  n1 : 1 ≤ m.n
  n2 : m.n ≤ 100000
  st : m.st = [0]
  en : Asc m.en m.n
  len : m.ms.length ≤ 100000
  ord : m.ms.Pairwise mvlt
  ok : ∀ x ∈ m.ms, okMv m.n x
theorem sig_in : ∀ c ∈ sigs, c ∈ (Str.ofString "(),." ++ LET).cps.toList := by decide +kernel
theorem nxt {D : Ends} {σ : L2.St} {H : Hp} (h : D.nx σ H) : tNext D σ H := h
section
variable {P : Program} {w : World} {K : PySem.W.Frag} {mg : Str → Option Value} {base : Heap}
/-! ### _law_form -/
def sp_form : Sp := fun vs H Q _ => ∃ (v : V) (m : Mc), vs = [v] ∧ Im H v (mcD m) ∧ GoodM m ∧ ∀ H', Same H H' → Q (.bl true) H'
abbrev s_law_form : Stmt := topS 20
theorem sc_law_form : FnScope ["machine", "ahead", "move"] ["machine"] (defScope s_law_form) := ⟨rfl, rfl, rfl, by decide +kernel, rfl, by decide +kernel, by decide +kernel⟩
theorem ok_law_form {f : Addr} {fd : FuncData} (F : Fun K "_law_form" "_law_form" s_law_form f fd) (T : Txt mg) (D_law_is_number : Df P w K mg base 1 "_law_is_number" ["thing"] sp_num)
    (D_law_ascending : Df P w K mg base 2 "_law_ascending" ["thing", "many"] sp_asc) (D_law_letters : Df P w K mg base 1 "_law_letters" [] sp_letters) (D_law_no_round : Df P w K mg base 1 "_law_no_round" ["machine"] sp_nr) :
    FnOk P w K mg base CX0 3 f fd ["machine"] sp_form := by
  refine F.ok sc_law_form (fun vs H Q E h => ?_) (fun cdv A outer s0 H vs Q E hr h => ?_)
  · obtain ⟨a, ns, rfl, _⟩ := h
    rfl
  · obtain ⟨v, m, rfl, hv, G, k⟩ := h
    have hu : (A.deeper (envOfC "_law_form" (defScope s_law_form) s0.heap.objs.size f cdv)).units + 60 < cLine := by have := hr.un; omega
    obtain ⟨a, a1, a2, a3, xs, rfl, M⟩ := mc_of hv
    have gn := G.n1
    refine ⟨_, (pss_cons (ps_if (PW.pt (pw_or (pt_not (pt_val (pe_callB call_isi (by rfl) T.b_isinstance (by decide +kernel) (pa_cons (pv 0) (pa_cons (pe_bltn (v := .ty "tuple") (u := .type "tuple") (by rfl) T.b_tuple (by decide +kernel) rfl) pa_nil))))) (pw_or (pt_cmpR op_ne (pe_callB call_len_seq (by rfl) T.b_len (by decide +kernel) (pa_cons (pv 0) pa_nil)) pe_int (nomark _)) (pw_or (pt_not (pt_val (pe_d D_law_is_number (hr.mono (by decide)) rfl (pa_cons (pe_ix ix_tup (pv 0) pe_int (fun _ _ => rfl)) pa_nil)))) (pw_or1 (pt_cmpR op_lt (pe_ix ix_tup (pv 0) pe_int (fun _ _ => rfl)) pe_int (nomark _)))))))
 (pss_one (ps_ret pe_bl))
 pss_nil)
 (pss_cons (ps_if (PW.pt (pw_or (pt_not (pt_val (pe_d D_law_ascending hr rfl (pa_cons (pe_ix ix_tup (pv 0) pe_int (fun _ _ => rfl)) (pa_cons (pe_ix ix_tup (pv 0) pe_int (fun _ _ => rfl)) pa_nil))))) (pw_or1 (pt_not (pt_val (pe_d D_law_ascending hr rfl (pa_cons (pe_ix ix_tup (pv 0) pe_int (fun _ _ => rfl)) (pa_cons (pe_ix ix_tup (pv 0) pe_int (fun _ _ => rfl)) pa_nil))))))))
 (pss_one (ps_ret pe_bl))
 pss_nil)
 (pss_cons (ps_if (pt_not (pt_val (pe_callB call_isi (by rfl) T.b_isinstance (by decide +kernel) (pa_cons (pe_ix ix_tup (pv 0) pe_int (fun _ _ => rfl)) (pa_cons (pe_bltn (v := .ty "tuple") (u := .type "tuple") (by rfl) T.b_tuple (by decide +kernel) rfl) pa_nil)))))
 (pss_one (ps_ret pe_bl))
 pss_nil)
 (pss_cons (ps_set (i := 1) sc_law_form.nd rfl (Or.inl rfl) (pe_tup (pa_cons (pe_un un_neg pe_int) (pa_cons pe_str (pa_cons (pe_un un_neg pe_int) pa_nil)))))
 (pss_cons (ps_for PassesOwn.never rfl (pi_tup (pe_ix ix_tup (pv 0) pe_int (fun _ _ => rfl))) (pg_name (i := 2) sc_law_form.nd rfl (Or.inl rfl))
 (pss_cons (ps_if (PW.pt (pw_or (pt_not (pt_val (pe_callB call_isi (by rfl) T.b_isinstance (by decide +kernel) (pa_cons (pv 2) (pa_cons (pe_bltn (v := .ty "tuple") (u := .type "tuple") (by rfl) T.b_tuple (by decide +kernel) rfl) pa_nil))))) (pw_or (pt_cmpR op_ne (pe_callB call_len_seq (by rfl) T.b_len (by decide +kernel) (pa_cons (pv 2) pa_nil)) pe_int (nomark _)) (pw_or1 (pt_not (pt_val (pe_callB call_isi (by rfl) T.b_isinstance (by decide +kernel) (pa_cons (pe_ix ix_tup (pv 2) pe_int (fun _ _ => rfl)) (pa_cons (pe_bltn (v := .ty "str") (u := .type "str") (by rfl) T.b_str (by decide +kernel) rfl) pa_nil)))))))))
 (pss_one (ps_ret pe_bl))
 pss_nil)
 (pss_cons (ps_if (PW.pt (pw_or (pt_not (pt_val (pe_d D_law_is_number (hr.mono (by decide)) rfl (pa_cons (pe_ix ix_tup (pv 2) pe_int (fun _ _ => rfl)) pa_nil)))) (pw_or (pt_not (pt_val (pe_d D_law_is_number (hr.mono (by decide)) rfl (pa_cons (pe_ix ix_tup (pv 2) pe_int (fun _ _ => rfl)) pa_nil)))) (pw_or1 (pt_not (pt_val (pe_d D_law_is_number (hr.mono (by decide)) rfl (pa_cons (pe_ix ix_tup (pv 2) pe_int (fun _ _ => rfl)) pa_nil))))))))
 (pss_one (ps_ret pe_bl))
 pss_nil)
 (pss_cons (ps_if (PW.pt (pw_or (pt_cmpR op_ge (pe_ix ix_tup (pv 2) pe_int (fun _ _ => rfl)) (pe_ix ix_tup (pv 0) pe_int (fun _ _ => rfl)) (nomark _)) (pw_or (pt_cmpR op_ge (pe_ix ix_tup (pv 2) pe_int (fun _ _ => rfl)) (pe_ix ix_tup (pv 0) pe_int (fun _ _ => rfl)) (nomark _)) (pw_or1 (pt_not (pt_cmpR (op_ltD hu) (pv 1) (pe_tup (pa_cons (pe_ix ix_tup (pv 2) pe_int (fun _ _ => rfl)) (pa_cons (pe_ix ix_tup (pv 2) pe_int (fun _ _ => rfl)) (pa_cons (pe_ix ix_tup (pv 2) pe_int (fun _ _ => rfl)) pa_nil)))) (nomark _)))))))
 (pss_one (ps_ret pe_bl))
 pss_nil)
 (pss_cons (ps_if (PW.pt (pw_and (pt_cmpR op_ne (pe_ix ix_tup (pv 2) pe_int (fun _ _ => rfl)) pe_str (nomark _)) (pw_and1 (PW.pt (pw_or (pt_cmpR op_ne (pe_callB call_len_str (by rfl) T.b_len (by decide +kernel) (pa_cons (pe_ix ix_tup (pv 2) pe_int (fun _ _ => rfl)) pa_nil)) pe_int (nomark _)) (pw_or1 (pt_cmpR op_notIn_sign (pe_ix ix_tup (pv 2) pe_int (fun _ _ => rfl)) (pe_op op_add_str pe_str (pe_d0 D_law_letters (hr.mono (by decide)) rfl)) (by rfl))))))))
 (pss_one (ps_ret pe_bl))
 pss_nil)
 (pss_one (ps_set (i := 1) sc_law_form.nd rfl (Or.inl rfl) (pe_tup (pa_cons (pe_ix ix_tup (pv 2) pe_int (fun _ _ => rfl)) (pa_cons (pe_ix ix_tup (pv 2) pe_int (fun _ _ => rfl)) (pa_cons (pe_ix ix_tup (pv 2) pe_int (fun _ _ => rfl)) pa_nil)))))))))))
 (pss_one (ps_ret (pe_d D_law_no_round (hr.mono (by decide)) rfl (pa_cons (pv 0) pa_nil))))))))), ?_⟩
    refine q_or (b1 := false) (b2 := false) (fun Q' q => ⟨_, rfl, _, _, _, _, _, rfl, .ty _, .base (.tup M.top), ki_same _, _, rfl, q⟩) (fun _ Q' q => ?_) (ite2 (fun h => by cases h) (fun _ => ?_))
    · refine q_or (b1 := false) (b2 := false) (fun Q' q => ⟨_, rfl, a, _, rfl, .inr (SqT.of M.top), rfl, _, rfl, by rw [dec_int]; exact q⟩) (fun _ Q' q => ?_) q
      refine q_or (b1 := false) (b2 := false) (fun Q' q => ⟨_, rfl, a, _, 0, _, rfl, rfl, SqT.of M.top, rfl, m.n, rfl, _, rfl, by rw [decide_eq_true (by omega)]; exact q⟩) (fun _ Q' q => ?_) q
      exact ⟨_, rfl, a, _, 0, _, rfl, rfl, SqT.of M.top, rfl, _, _, rfl, rfl, _, rfl, by rw [decide_eq_false (by omega)]; exact q⟩
    have as1 : Asc m.st m.n := by
      rw [G.st]
      exact ⟨by simp, by intro x hx; simp at hx; subst hx; omega⟩
    dsimp only [tNext]
    refine q_or (b1 := false) (b2 := false) (fun Q' q => ?_) (fun _ Q' q => ?_) ?_
    · exact ⟨_, rfl, a, _, 1, _, rfl, rfl, SqT.of M.top, rfl, _, rfl, a, _, 0, _, rfl, rfl, SqT.of M.top, rfl, a1, m.st, m.n, rfl, M.st, as1, _, rfl, q⟩
    · exact ⟨_, rfl, a, _, 2, _, rfl, rfl, SqT.of M.top, rfl, _, rfl, a, _, 0, _, rfl, rfl, SqT.of M.top, rfl, a2, m.en, m.n, rfl, M.en, G.en, _, rfl, q⟩
    refine ite2 (fun h => by cases h) (fun _ => ?_)
    refine ⟨_, rfl, a, _, 3, _, rfl, rfl, SqT.of M.top, rfl, _, _, _, _, _, rfl, .ty _, .base (.tup M.ms), ki_same _, _, rfl, ite2 (fun h => by cases h) (fun _ => ?_)⟩
    refine ⟨_, rfl, _, rfl, small5 (by simp), fun q hq => ?_⟩
    have s1 : Same H (upd H q (.tup [.int (-1), .str (Str.ofString ""), .int (-1)])) := Same.new hq
    have M1 := M.same s1
    refine ⟨_, rfl, a, _, 3, _, rfl, rfl, SqT.of M1.top, rfl, a3, rfl, ⟨_, SqT.of M1.ms⟩, for_it walk_tup (fun i σ Hx => ∃ (q : Addr) (e1 : Int) (e2 : Str) (e3 : Int) (v : Option V), σ = [some (.ref a), some (.ref q), v] ∧ Same H Hx ∧ Hx q = some (.tup [.int e1, .str e2, .int e3]) ∧ ∀ x ∈ m.ms.drop i, PySem.W.dataLt (.tuple [.int e1, .str e2, .int e3]) (.tuple [.int x.1, .str x.2.1, .int x.2.2.1]) = true) ⟨q, _, _, _, none, rfl, s1, upd_same, fun x hx => key_lt _ _ (.inl (by have := (G.ok x (List.mem_of_mem_drop hx)).1; omega))⟩ (fun i σ H1 _ h => by obtain ⟨_, _, _, _, _, _, s, _⟩ := h; exact SqT.of (M.same s).ms) ?_ ?_⟩
    · rintro i x σ H2 H3 hi ⟨q, e1, e2, e3, v, rfl, s2, q2, hd⟩ ⟨rfl, hx⟩
      have M2 := M.same s2
      obtain ⟨x, b, hm, rfl, hb⟩ := M2.move hx
      have hmm := List.mem_of_getElem? hm
      obtain ⟨o1, o2, o3, o4, o5, c, hc, o6⟩ := G.ok x hmm
      have ez := drop_at hm
      have pd : (m.ms.drop i).Pairwise mvlt := G.ord.sublist (List.drop_sublist i _)
      rw [ez, List.pairwise_cons] at pd
      have h1 := hd x (by rw [ez]; exact List.mem_cons_self)
      refine q_or (b1 := false) (b2 := false) (fun Q' q => ⟨_, rfl, _, _, _, _, _, rfl, .ty _, .base (.tup hb), ki_same _, _, rfl, q⟩) (fun _ Q' q => ?_) (ite2 (fun h => by cases h) (fun _ => ?_))
      · refine q_or (b1 := false) (b2 := false) (fun Q' q => ⟨_, rfl, b, _, rfl, .inr (SqT.of hb), rfl, _, rfl, by rw [dec_int]; exact q⟩) (fun _ Q' q => ?_) q
        exact ⟨_, rfl, b, _, 1, _, rfl, rfl, SqT.of hb, rfl, _, _, _, _, _, rfl, .ty _, .base (.str _), ki_same _, _, rfl, q⟩
      dsimp only [tNext]
      refine q_or (b1 := false) (b2 := false) (fun Q' q => ?_) (fun _ Q' q => ?_) ?_
      · exact ⟨_, rfl, b, _, 0, _, rfl, rfl, SqT.of hb, rfl, x.1, rfl, _, rfl, by rw [decide_eq_true o1]; exact q⟩
      · refine q_or (b1 := false) (b2 := false) (fun Q' q => ⟨_, rfl, b, _, 2, _, rfl, rfl, SqT.of hb, rfl, x.2.2.1, rfl, _, rfl, by rw [decide_eq_true o3]; exact q⟩) (fun _ Q' q => ⟨_, rfl, b, _, 3, _, rfl, rfl, SqT.of hb, rfl, x.2.2.2, rfl, _, rfl, by rw [decide_eq_true (by omega)]; exact q⟩) q
      refine ite2 (fun h => by cases h) (fun _ => ?_)
      dsimp only [tNext]
      refine ⟨_, rfl, b, _, 0, _, rfl, rfl, SqT.of hb, rfl, _, rfl, a, _, 0, _, rfl, rfl, SqT.of M2.top, rfl, _, _, rfl, rfl, _, rfl, ite2 (fun h => absurd (of_decide_eq_true h) (by omega)) (fun _ => ?_)⟩
      refine ⟨_, rfl, b, _, 2, _, rfl, rfl, SqT.of hb, rfl, _, rfl, a, _, 0, _, rfl, rfl, SqT.of M2.top, rfl, _, _, rfl, rfl, _, rfl, ite2 (fun h => absurd (of_decide_eq_true h) (by omega)) (fun _ => ?_)⟩
      refine ⟨_, rfl, _, rfl, b, _, 0, _, rfl, rfl, SqT.of hb, rfl, _, rfl, b, _, 1, _, rfl, rfl, SqT.of hb, rfl, _, rfl, b, _, 2, _, rfl, rfl, SqT.of hb, rfl, small5 (by simp), fun g hg => ?_⟩
      have s4 : Same H3 (upd H3 g (.tup [.int x.1, .str x.2.1, .int x.2.2.1])) := Same.new hg
      refine ⟨.tuple [.int e1, .str e2, .int e3], .tuple [.int x.1, .str x.2.1, .int x.2.2.1], .tup (s4 _ _ q2) (.cons (.int _) (.cons (.str _) (.cons (.int _) .nil))), .tup upd_same (.cons (.int _) (.cons (.str _) (.cons (.int _) .nil))), by simp [PySem.W.alike, PySem.W.alikeAll], (fun e => by cases e), by simp [PyData.depth, PyData.depthAll], _, rfl, ?_⟩
      rw [h1]
      refine ite2 (fun h => by cases h) (fun _ => ?_)
      dsimp only [tNext]
      have s5 := s2.trans s4
      have hb5 := s4 _ _ hb
      clear hb
      generalize upd H3 g (.tup [.int x.1, .str x.2.1, .int x.2.2.1]) = H5 at s5 hb5 ⊢
      have hc5 : H5 b = some (.tup [.int x.1, .str (sg c), .int x.2.2.1, .int x.2.2.2]) := by rw [← o6]; exact hb5
      refine q_and (b1 := true) (b2 := false) (fun Q' q => ?_) (fun _ Q' q => ?_) ?_
      · refine ⟨_, rfl, b, _, 1, _, rfl, rfl, SqT.of hc5, rfl, rfl, _, rfl, ?_⟩
        rw [decide_eq_false (fun e => by have := congrArg Str.length (V.str.inj e); exact absurd (show (1 : Nat) = (Str.ofString "").length from this) (by decide +kernel))]
        exact q
      · refine q_or (b1 := false) (b2 := false) (fun Q' q => ?_) (fun _ Q' q => ?_) q
        · refine ⟨_, rfl, b, _, 1, _, rfl, rfl, SqT.of hc5, rfl, sg c, rfl, small5 (Nat.le_trans (show (sg c).length ≤ 1 from Nat.le_refl _) (by decide)), rfl, _, rfl, ?_⟩
          rw [dec_int]
          exact q
        · refine ⟨_, rfl, b, _, 1, _, rfl, rfl, SqT.of hc5, rfl, rfl, _, _, rfl, rfl, by decide +kernel, c, _, rfl, rfl, _, rfl, ?_⟩
          rw [decide_eq_true (sig_in c hc)]
          exact q
      refine ite2 (fun h => by cases h) (fun _ => ?_)
      dsimp only [tNext]
      refine ⟨_, rfl, b, _, 0, _, rfl, rfl, SqT.of hb5, rfl, _, rfl, b, _, 1, _, rfl, rfl, SqT.of hb5, rfl, _, rfl, b, _, 2, _, rfl, rfl, SqT.of hb5, rfl, small5 (by simp), fun q' hq' => ?_⟩
      exact ⟨q', _, _, _, _, rfl, Same.put s5 (none_back s5 hq'), upd_same, fun y hy => (pd.1 y hy).key _ _⟩
    · rintro σ H2 ⟨q, e1, e2, e3, v, rfl, s2, q2, hd⟩
      refine ⟨_, rfl, _, m, rfl, hv.mono (TK.same s2), fun x hx => ?_, fun H3 s3 => k _ (s2.trans s3)⟩
      rw [(G.ok x hx).2.2.2.2.1]
      decide
end
end N1
set_option Elab.async false
set_option linter.all false
set_option maxRecDepth 100000
namespace N1
open PySem PySem.Spec PyProof.Rows L2 TL
theorem sg_ne (c : Nat) : sg c ≠ Str.ofString "" := fun e => by
  have := congrArg Str.length e
  exact absurd (show (1 : Nat) = (Str.ofString "").length from this) (by decide +kernel)
theorem mvlt.ne {a b : Mv} (h : mvlt a b) : mkk a ≠ mkk b := fun e => by
  have e1 : a.1 = b.1 := Sum.inl.inj (List.cons.inj e).1
  have e2 : a.2.1 = b.2.1 := Sum.inr.inj (List.cons.inj (List.cons.inj e).2).1
  rcases h with h | ⟨_, c, d, h2, h3, h4⟩
  · omega
  · rw [h2, h3] at e2
    have := sg_inj e2
    omega
def qD (x : Str × Bool) : PyData := .tuple [.str x.1, .bool x.2]
def okQ (m : Mc) (δ : Int → Nat → Option Int) (x : Str × Bool) : Prop := x.1.length ≤ 100000 ∧ accD m.en (runD δ (tl x.1) (some (0, 0))) = if x.2 = true then some (x.1.length : Int) else none
theorem q_of {H : Hp} {v : V} {x : Str × Bool} (h : Im H v (qD x)) : ∃ b, v = .ref b ∧ H b = some (.tup [.str x.1, .bl x.2]) := by
  obtain ⟨b, xs, rfl, hb, hI⟩ := h.tup_of
  refine ⟨b, rfl, ?_⟩
  rw [hb]
  cases hI with
  | cons h1 r1 =>
    cases r1 with
    | cons h2 r2 =>
      cases r2
      rw [h1.str_of, h2.bl_of]
section
variable {P : Program} {w : World} {K : PySem.W.Frag} {mg : Str → Option Value} {base : Heap}
/-! ### _law_takes -/
def sp_takes : Sp := fun vs H Q _ => ∃ (v : V) (p : Addr) (m : Mc) (δ : Int → Nat → Option Int) (as : List (Str × Bool)), vs = [v, .ref p] ∧ Im H v (mcD m) ∧ GoodM m ∧ DetM m.ms δ ∧ Ls H p (as.map qD) ∧ (∀ x ∈ as, okQ m δ x) ∧ ∀ H', Same H H' → Q (.bl true) H'
abbrev s_law_takes : Stmt := topS 26
theorem sc_law_takes : FnScope ["machine", "asked", "table", "text", "due", "price"] ["machine", "asked"] (defScope s_law_takes) := ⟨rfl, rfl, rfl, by decide +kernel, rfl, by decide +kernel, by decide +kernel⟩
theorem ok_law_takes {f : Addr} {fd : FuncData} (F : Fun K "_law_takes" "_law_takes" s_law_takes f fd) (T : Txt mg) (D_law_form : Df P w K mg base 3 "_law_form" ["machine"] sp_form)
    (D_law_table : Df P w K mg base 1 "_law_table" ["machine"] sp_table) (D_law_price : Df P w K mg base 2 "_law_price" ["machine", "table", "text"] sp_price) :
    FnOk P w K mg base CX0 4 f fd ["machine", "asked"] sp_takes := by
  refine F.ok sc_law_takes (fun vs H Q E h => ?_) (fun cdv A outer s0 H vs Q E hr h => ?_)
  · obtain ⟨a, ns, m, δ, as, rfl, _⟩ := h
    rfl
  · obtain ⟨v, p, m, δ, as, rfl, hv, G, hδ, ⟨xs, hp, hI⟩, ok, k⟩ := h
    refine ⟨_, (pss_cons (ps_if (pt_not (pt_val (pe_d D_law_form hr rfl (pa_cons (pv 0) pa_nil))))
 (pss_one (ps_ret pe_bl))
 pss_nil)
 (pss_cons (ps_set (i := 2) sc_law_takes.nd rfl (Or.inl rfl) (pe_d D_law_table (hr.mono (by decide)) rfl (pa_cons (pv 0) pa_nil)))
 (pss_cons (ps_for PassesOwn.never rfl (pi_list (pv 1)) (pg_tup (by rfl) (pgs_cons (pg_name (i := 3) sc_law_takes.nd rfl (Or.inl rfl)) (pgs_cons (pg_name (i := 4) sc_law_takes.nd rfl (Or.inl rfl)) pgs_nil)))
 (pss_cons (ps_set (i := 5) sc_law_takes.nd rfl (Or.inl rfl) (pe_d D_law_price (hr.mono (by decide)) rfl (pa_cons (pv 0) (pa_cons (pv 2) (pa_cons (pv 3) pa_nil)))))
 (pss_cons (ps_if (PW.pt (pw_and (pt_val (pv 4)) (pw_and1 (PW.pt (pw_or (pt_cmpR op_isN (pv 5) pe_non (nomark _)) (pw_or1 (pt_cmpR op_ne (pv 5) (pe_callB call_len_str (by rfl) T.b_len (by decide +kernel) (pa_cons (pv 3) pa_nil)) (nomark _))))))))
 (pss_one (ps_ret pe_bl))
 pss_nil)
 (pss_one (ps_if (PW.pt (pw_and (pt_not (pt_val (pv 4))) (pw_and1 (pt_cmpR op_notN (pv 5) pe_non (nomark _)))))
 (pss_one (ps_ret pe_bl))
 pss_nil)))))
 (pss_one (ps_ret pe_bl))))), ?_⟩
    refine ⟨_, rfl, v, m, rfl, hv, G, fun H1 s1 => ⟨_, rfl, ite2 (fun h => by cases h) (fun _ => ?_)⟩⟩
    dsimp only [tNext]
    refine ⟨_, rfl, v, m, rfl, hv.mono (TK.same s1), G.ord.imp (fun h => h.ne), G.len, fun t H2 s2 ht => ?_⟩
    have s2 := s1.trans s2
    refine ⟨_, rfl, p, rfl, ⟨_, SqL.of (s2 _ _ hp)⟩, for_it walk_list (fun i σ Hx => ∃ v3 v4 v5 : Option V, σ = [some v, some (.ref p), some (.ref t), v3, v4, v5] ∧ Same H Hx ∧ TabOk Hx t m.ms) ⟨none, none, none, rfl, s2, ht⟩ (fun i σ H1 _ h => by obtain ⟨_, _, _, _, s, _⟩ := h; exact SqL.of (s _ _ hp)) ?_ ?_⟩
    · rintro i x σ H3 H4 hi ⟨v3, v4, v5, rfl, s3, t3⟩ ⟨rfl, hx⟩
      obtain ⟨q, hq, hIm⟩ := hI.at_back hx
      obtain ⟨b, rfl, hb⟩ := q_of (hIm.mono (TK.same s3))
      obtain ⟨l1, l2⟩ := ok q (List.mem_of_getElem? hq)
      obtain ⟨tx, due⟩ := q
      refine ⟨b, _, rfl, SqT.of hb, rfl, _, _, rfl, _, _, rfl, rfl, ?_⟩
      refine ⟨_, rfl, _, rfl, _, rfl, v, t, tx, m, δ, rfl, hv.mono (TK.same s3), t3, fun x hx => ?_, G.st, by have := G.n1; omega, G.n2, hδ, fun H5 s5 => ?_⟩
      · obtain ⟨c, _, hc⟩ := (G.ok x hx).2.2.2.2.2
        rw [hc]
        exact sg_ne c
      · have l2 : accD m.en (runD δ (tl tx) (some (0, 0))) = if due = true then some (tx.length : Int) else none := l2
        rw [l2]
        cases due with
        | true =>
          dsimp only [gName]
          refine q_and (b1 := true) (b2 := false) (fun Q' q => ⟨_, rfl, _, rfl, q⟩) (fun _ Q' q => ?_) ?_
          · refine q_or (b1 := false) (b2 := false) (fun Q' q => ⟨_, rfl, rfl, _, rfl, q⟩) (fun _ Q' q => ?_) q
            refine ⟨_, rfl, _, rfl, tx, rfl, small5 l1, rfl, _, rfl, ?_⟩
            show Q' (!decide (V.int (tx.length : Int) = V.int (tx.length : Int))) _
            rw [decide_eq_true rfl]
            exact q
          · refine ite2 (fun h => by cases h) (fun _ => ?_)
            dsimp only [tNext]
            refine q_and (b1 := false) (b2 := false) (fun Q' q => ⟨_, rfl, _, rfl, q⟩) (fun h => by cases h) ?_
            exact ite2 (fun h => by cases h) (fun _ => ⟨_, _, _, rfl, s3.trans s5, t3.same s5⟩)
        | false =>
          dsimp only [gName]
          refine q_and (b1 := false) (b2 := false) (fun Q' q => ⟨_, rfl, _, rfl, q⟩) (fun h => by cases h) ?_
          refine ite2 (fun h => by cases h) (fun _ => ?_)
          dsimp only [tNext]
          refine q_and (b1 := true) (b2 := false) (fun Q' q => ⟨_, rfl, _, rfl, q⟩) (fun _ Q' q => ⟨_, rfl, rfl, _, rfl, q⟩) ?_
          exact ite2 (fun h => by cases h) (fun _ => ⟨_, _, _, rfl, s3.trans s5, t3.same s5⟩)
    · rintro σ H3 ⟨v3, v4, v5, rfl, s3, t3⟩
      exact k _ s3
end
end N1
set_option Elab.async false
set_option linter.all false
set_option maxRecDepth 100000
namespace N1
open PySem PySem.Spec PyProof.Rows L2 TL
/-! ### the plain law: what the moves say -/
theorem sig_cases : ∀ c ∈ sigs, (alnum c = true ∧ cut3 c = c ∧ c ≠ 46) ∨ (alnum c = false ∧ cut3 c = 46) := by decide +kernel
theorem sigs_asc : sigs.Pairwise (· < ·) := by decide +kernel
theorem pre_dot (c : Nat) (r : List Nat) : pre [46] (c :: r) = decide (c = 46) := by
  unfold pre
  by_cases h : c = 46 <;> simp [h]
/-- whether w is among the words of seg and what follows -/
def hasW (w : List Nat) : List Nat → List Nat → Bool
  | seg, [] => decide (seg = w)
  | seg, c :: r => if alnum c = true then hasW w (seg ++ [c]) r else decide (seg = w) || hasW w [] r
theorem hasW_spl (w : List Nat) : ∀ (cs seg : List Nat), (∀ c ∈ cs, c ∈ sigs) → decide (w ∈ spl [46] 0 seg (cs.map cut3)) = hasW w seg cs
  | [], seg, _ => by
    show decide (w ∈ spl [46] 0 seg []) = decide (seg = w)
    rw [spl_nil]
    by_cases h : seg = w
    · simp [h]
    · simp [h, Ne.symm h]
  | c :: r, seg, hs => by
    have hr : ∀ c ∈ r, c ∈ sigs := fun x hx => hs x (List.mem_cons_of_mem _ hx)
    rcases sig_cases c (hs c List.mem_cons_self) with ⟨h1, h2, h3⟩ | ⟨h1, h2⟩
    · have e : hasW w seg (c :: r) = hasW w (seg ++ [c]) r := by rw [hasW, if_pos h1]
      rw [e, ← hasW_spl w r (seg ++ [c]) hr, List.map_cons, h2, spl_miss (by rw [pre_dot]; exact decide_eq_false h3)]
    · have e : hasW w seg (c :: r) = (decide (seg = w) || hasW w [] r) := by rw [hasW, if_neg (by rw [h1]; exact Bool.false_ne_true)]
      rw [e, ← hasW_spl w r [] hr, List.map_cons, h2, spl_hit (by rw [pre_dot]; rfl)]
      show decide (w ∈ seg :: spl [46] 0 [] (r.map cut3)) = _
      by_cases h : seg = w
      · simp [h]
      · simp [h, Ne.symm h]
/-- δ of a list of moves -/
def δM (ms : List Mv) (s : Int) (c : Nat) : Option Int := (ms.find? fun x => decide (x.1 = s ∧ x.2.1 = sg c)).map fun x => x.2.2.1
theorem δM_det {ms : List Mv} (h : ∀ x ∈ ms, x.2.2.2 = 1) : DetM ms (δM ms) where
  yes s c t e := by
    unfold δM at e
    obtain ⟨x, hx, rfl⟩ := Option.map_eq_some_iff.mp e
    have hm := List.mem_of_find?_eq_some hx
    have hk := List.find?_some hx
    obtain ⟨k1, k2⟩ := of_decide_eq_true hk
    have := h x hm
    obtain ⟨a, b, c', d⟩ := x
    simp only at k1 k2 this
    subst k1 k2 this
    exact hm
  no s c e := by
    unfold δM at e
    rw [Option.map_eq_none_iff, List.find?_eq_none] at e
    exact fun x hx hk => e x hx (decide_eq_true hk)
theorem pw_tri {α : Type} {R : α → α → Prop} : ∀ {l : List α}, l.Pairwise R → ∀ a ∈ l, ∀ b ∈ l, a = b ∨ R a b ∨ R b a
  | [], _, a, ha, _, _ => by cases ha
  | x :: l, hp, a, ha, b, hb => by
    rw [List.pairwise_cons] at hp
    rcases List.mem_cons.mp ha with ha | ha
    · rcases List.mem_cons.mp hb with hb | hb
      · exact .inl (ha.trans hb.symm)
      · exact .inr (.inl (ha ▸ hp.1 b hb))
    · rcases List.mem_cons.mp hb with hb | hb
      · exact .inr (.inr (hb ▸ hp.1 a ha))
      · exact pw_tri hp.2 a ha b hb
theorem δM_hit {ms : List Mv} (ord : ms.Pairwise mvlt) {s t p : Int} {c : Nat} (h : ((s, sg c, t, p) : Mv) ∈ ms) : δM ms s c = some t := by
  unfold δM
  cases e : ms.find? fun x => decide (x.1 = s ∧ x.2.1 = sg c) with
  | none =>
    rw [List.find?_eq_none] at e
    exact absurd (decide_eq_true ⟨rfl, rfl⟩) (e _ h)
  | some y =>
    have hm := List.mem_of_find?_eq_some e
    have hk := List.find?_some e
    obtain ⟨k1, k2⟩ := of_decide_eq_true hk
    have hkey : mkk y = mkk (s, sg c, t, p) := by unfold mkk; rw [k1, k2]
    rcases pw_tri ord y hm _ h with h | h | h
    · rw [h]; rfl
    · exact absurd hkey h.ne
    · exact absurd hkey.symm h.ne
theorem δM_miss {ms : List Mv} {s : Int} {c : Nat} (h : ∀ x ∈ ms, ¬ (x.1 = s ∧ x.2.1 = sg c)) : δM ms s c = none := by
  unfold δM
  rw [Option.map_eq_none_iff, List.find?_eq_none]
  exact fun x hx hk => h x hx (of_decide_eq_true hk)
theorem mem_wm {w : List Nat} {fo : Option Int} {x : Mv} : x ∈ wordMoves w fo ↔ ∃ h, h < w.length + 2 ∧ ∃ c ∈ sigs, wmv w fo h c = some x := by
  unfold wordMoves wmvs
  simp only [List.mem_flatMap, List.mem_filterMap, List.mem_range]
theorem wmv_key {w : List Nat} {fo : Option Int} {h c : Nat} {x : Mv} (e : wmv w fo h c = some x) : x.1 = (h : Int) ∧ x.2.1 = sg c ∧ x.2.2.2 = 1 := by
  unfold wmv at e
  split at e
  · cases e; exact ⟨rfl, rfl, rfl⟩
  · split at e
    · cases e; exact ⟨rfl, rfl, rfl⟩
    · cases fo with
      | none => cases e
      | some f => cases e; exact ⟨rfl, rfl, rfl⟩
theorem wm_ord (w : List Nat) (fo : Option Int) : (wordMoves w fo).Pairwise mvlt := by
  unfold wordMoves
  rw [List.pairwise_flatMap]
  refine ⟨fun h _ => ?_, ?_⟩
  · unfold wmvs
    refine sigs_asc.filterMap _ fun c d hcd x hx y hy => ?_
    obtain ⟨a1, a2, _⟩ := wmv_key hx
    obtain ⟨b1, b2, _⟩ := wmv_key hy
    exact .inr ⟨by rw [a1, b1], c, d, a2, b2, hcd⟩
  · refine List.pairwise_lt_range.imp fun {h h'} hh x hx y hy => ?_
    obtain ⟨c, _, hx⟩ := List.mem_filterMap.mp hx
    obtain ⟨d, _, hy⟩ := List.mem_filterMap.mp hy
    obtain ⟨a1, _, _⟩ := wmv_key hx
    obtain ⟨b1, _, _⟩ := wmv_key hy
    exact .inl (by rw [a1, b1]; omega)
theorem sm_ord (o t p : Int) : (signMoves o t p).Pairwise mvlt := by
  unfold signMoves
  rw [List.pairwise_map]
  exact sigs_asc.imp fun {c d} h => .inr ⟨rfl, c, d, rfl, rfl, h⟩
theorem mem_sm {o t p : Int} {x : Mv} : x ∈ signMoves o t p ↔ ∃ c ∈ sigs, (o, sg c, t, p) = x := by
  unfold signMoves
  simp only [List.mem_map]
theorem srt_id {ms : List Mv} (h : ms.Pairwise mvlt) : srt ms = ms := by
  unfold srt
  refine List.mergeSort_of_pairwise (h.imp fun {a b} hab => ?_)
  have h1 : PyProof.Rows.lexLt PyProof.Rows.itemOrd (PySem.W.keyToks (mvD a)) (PySem.W.keyToks (mvD b)) = true := hab.key _ _
  show (!PyProof.Rows.lexLt PyProof.Rows.itemOrd (PySem.W.keyToks (mvD b)) (PySem.W.keyToks (mvD a))) = true
  cases h2 : PyProof.Rows.lexLt PyProof.Rows.itemOrd (PySem.W.keyToks (mvD b)) (PySem.W.keyToks (mvD a)) with
  | false => rfl
  | true =>
    have := PyProof.Rows.lex_trans _ _ _ h1 h2
    rw [PyProof.Rows.lex_irrefl] at this
    cases this
end N1
set_option Elab.async false
set_option linter.all false
set_option maxRecDepth 100000
namespace N1
open PySem PySem.Spec PyProof.Rows L2 TL
/-! ### the machines keep the form -/
abbrev wMs (z : List Nat) : List Mv := wordMoves z (some ((z.length : Int) + 2)) ++ signMoves ((z.length : Int) + 2) ((z.length : Int) + 2) 1
theorem wMs_ord (z : List Nat) : (wMs z).Pairwise mvlt := by
  rw [List.pairwise_append]
  refine ⟨wm_ord _ _, sm_ord _ _ _, fun x hx y hy => .inl ?_⟩
  obtain ⟨h, hh, c, _, e⟩ := mem_wm.mp hx
  obtain ⟨d, _, rfl⟩ := mem_sm.mp hy
  rw [(wmv_key e).1]
  show (h : Int) < (z.length : Int) + 2
  omega
theorem wmv_ok {w : List Nat} {fo : Option Int} {h c : Nat} {x : Mv} (n : Int) (hh : h < w.length + 2) (hc : c ∈ sigs) (hf : ∀ f, fo = some f → 0 ≤ f ∧ f < n) (hn : (w.length : Int) + 2 ≤ n) (e : wmv w fo h c = some x) : okMv n x := by
  obtain ⟨k1, k2, k3⟩ := wmv_key e
  have ht : 0 ≤ x.2.2.1 ∧ x.2.2.1 < n := by
    unfold wmv at e
    split at e
    · cases e
      show 0 ≤ (if h < w.length ∧ w[h]? = some c then (h : Int) + 1 else (w.length : Int) + 1) ∧ (if h < w.length ∧ w[h]? = some c then (h : Int) + 1 else (w.length : Int) + 1) < n
      split <;> omega
    · split at e
      · cases e
        show (0 : Int) ≤ 0 ∧ (0 : Int) < n
        omega
      · cases fo with
        | none => cases e
        | some f => cases e; exact hf f rfl
  exact ⟨by rw [k1]; omega, by rw [k1]; omega, ht.1, ht.2, k3, c, hc, k2⟩
theorem good_with {z : List Nat} (hz : z.length ≤ 1000) : GoodM (withWord z) where
  n1 := by show 1 ≤ (z.length : Int) + 3; omega
  n2 := by show (z.length : Int) + 3 ≤ 100000; omega
  st := rfl
  en := by
    show Asc [(z.length : Int), (z.length : Int) + 2] ((z.length : Int) + 3)
    refine ⟨by simp; omega, ?_⟩
    intro x hx
    simp only [List.mem_cons, List.not_mem_nil, or_false] at hx
    rcases hx with rfl | rfl <;> omega
  len := by
    show (srt (wMs z)).length ≤ 100000
    rw [srt_id (wMs_ord z), List.length_append, signMoves_len]
    have := wordMoves_le z (some ((z.length : Int) + 2))
    omega
  ord := by
    show (srt (wMs z)).Pairwise mvlt
    rw [srt_id (wMs_ord z)]
    exact wMs_ord z
  ok := by
    show ∀ x ∈ srt (wMs z), okMv ((z.length : Int) + 3) x
    rw [srt_id (wMs_ord z)]
    intro x hx
    rcases List.mem_append.mp hx with hx | hx
    · obtain ⟨h, hh, c, hc, e⟩ := mem_wm.mp hx
      exact wmv_ok _ hh hc (fun f hf => by cases hf; omega) (by omega) e
    · obtain ⟨d, hd, rfl⟩ := mem_sm.mp hx
      exact ⟨by show 0 ≤ (z.length : Int) + 2; omega, by show (z.length : Int) + 2 < (z.length : Int) + 3; omega, by show 0 ≤ (z.length : Int) + 2; omega, by show (z.length : Int) + 2 < (z.length : Int) + 3; omega, rfl, d, hd, rfl⟩
theorem asc_filter (m : Nat) (p : Nat → Bool) : Asc (((List.range m).filter p).map fun (h : Nat) => (h : Int)) (m : Int) := by
  refine ⟨?_, ?_⟩
  · rw [List.pairwise_map]
    exact (List.pairwise_lt_range.filter p).imp fun {a b} h => by omega
  · intro x hx
    obtain ⟨h, hh, rfl⟩ := List.mem_map.mp hx
    have := List.mem_range.mp (List.mem_filter.mp hh).1
    omega
theorem good_without {z : List Nat} (hz : z.length ≤ 1000) : GoodM (withoutWord z) where
  n1 := by show 1 ≤ (z.length : Int) + 2; omega
  n2 := by show (z.length : Int) + 2 ≤ 100000; omega
  st := rfl
  en := asc_filter (z.length + 2) _
  len := by
    show (srt (wordMoves z none)).length ≤ 100000
    rw [srt_id (wm_ord _ _)]
    have := wordMoves_le z none
    omega
  ord := by
    show (srt (wordMoves z none)).Pairwise mvlt
    rw [srt_id (wm_ord _ _)]
    exact wm_ord _ _
  ok := by
    show ∀ x ∈ srt (wordMoves z none), okMv ((z.length : Int) + 2) x
    rw [srt_id (wm_ord _ _)]
    intro x hx
    obtain ⟨h, hh, c, hc, e⟩ := mem_wm.mp hx
    exact wmv_ok _ hh hc (fun f hf => by cases hf) (by omega) e
theorem mem_up {n : Nat} {x : Mv} : x ∈ uptoMoves n ↔ ∃ h, h < n ∧ ∃ c ∈ sigs, (((h : Int), sg c, (h : Int) + 1, 1) : Mv) = x := by
  unfold uptoMoves
  simp only [List.mem_flatMap, List.mem_range, mem_sm]
theorem up_ord (n : Nat) : (uptoMoves n).Pairwise mvlt := by
  unfold uptoMoves
  rw [List.pairwise_flatMap]
  refine ⟨fun h _ => sm_ord _ _ _, ?_⟩
  refine List.pairwise_lt_range.imp fun {h h'} hh x hx y hy => ?_
  obtain ⟨c, _, rfl⟩ := mem_sm.mp hx
  obtain ⟨d, _, rfl⟩ := mem_sm.mp hy
  exact .inl (by show (h : Int) < (h' : Int); omega)
theorem good_upto {n : Nat} (hn : n ≤ 1000) : GoodM (uptoSigns n) where
  n1 := by show 1 ≤ (n : Int) + 1; omega
  n2 := by show (n : Int) + 1 ≤ 100000; omega
  st := rfl
  en := by
    have := asc_filter (n + 1) (fun _ => true)
    rw [List.filter_eq_self.mpr (fun _ _ => rfl)] at this
    exact this
  len := by
    show (uptoMoves n).length ≤ 100000
    rw [uptoMoves_le]
    omega
  ord := up_ord n
  ok := by
    intro x hx
    obtain ⟨h, hh, c, hc, rfl⟩ := mem_up.mp hx
    exact ⟨by show 0 ≤ (h : Int); omega, by show (h : Int) < (n : Int) + 1; omega, by show 0 ≤ (h : Int) + 1; omega, by show (h : Int) + 1 < (n : Int) + 1; omega, rfl, c, hc, rfl⟩
theorem good_det {m : Mc} (G : GoodM m) : DetM m.ms (δM m.ms) := δM_det fun x hx => (G.ok x hx).2.2.2.2.1
/-! ### what they answer -/
theorem runD_none (δ : Int → Nat → Option Int) : ∀ cs : List Nat, runD δ cs none = none
  | [] => rfl
  | _ :: r => runD_none δ r
theorem runD_cons (δ : Int → Nat → Option Int) (c : Nat) (r : List Nat) (o : Option (Int × Int)) : runD δ (c :: r) o = runD δ r (stD δ o c) := rfl
def stOf (w seg : List Nat) : Nat := if w.take seg.length = seg then seg.length else w.length + 1
theorem stOf_nil (w : List Nat) : stOf w [] = 0 := rfl
theorem stOf_le (w seg : List Nat) : stOf w seg < w.length + 2 := by
  unfold stOf
  split
  · rename_i h
    have := congrArg List.length h
    rw [List.length_take] at this
    omega
  · omega
theorem stOf_eq (w seg : List Nat) : stOf w seg = w.length ↔ seg = w := by
  unfold stOf
  constructor
  · intro h
    split at h
    · rename_i e
      rw [h, List.take_length] at e
      exact e.symm
    · omega
  · rintro rfl
    rw [if_pos List.take_length]
theorem stOf_snoc (w seg : List Nat) (c : Nat) : stOf w (seg ++ [c]) = if stOf w seg < w.length ∧ w[stOf w seg]? = some c then stOf w seg + 1 else w.length + 1 := by
  have hl : (seg ++ [c]).length = seg.length + 1 := by simp
  by_cases h : w.take seg.length = seg
  · have e1 : stOf w seg = seg.length := if_pos h
    rw [e1]
    unfold stOf
    rw [hl, List.take_succ, h]
    by_cases hc : w[seg.length]? = some c
    · rw [if_pos (by rw [hc]; rfl), if_pos ⟨(List.getElem?_eq_some_iff.mp hc).1, hc⟩]
    · rw [if_neg ?_, if_neg (fun x => hc x.2)]
      intro e
      have e := List.append_cancel_left e
      cases hw : w[seg.length]? with
      | none => rw [hw] at e; cases e
      | some d => rw [hw] at e hc; cases e; exact hc rfl
  · have e1 : stOf w seg = w.length + 1 := if_neg h
    rw [e1, if_neg (fun x => by omega)]
    unfold stOf
    rw [hl, if_neg]
    intro e
    apply h
    have := congrArg (List.take seg.length) e
    rw [List.take_take, List.take_append_of_le_length (Nat.le_refl _), List.take_length] at this
    rwa [Nat.min_eq_left (Nat.le_succ _)] at this
theorem δ_wm {w : List Nat} {fo : Option Int} {ex : List Mv} (ord : (wordMoves w fo ++ ex).Pairwise mvlt) (hex : ∀ y ∈ ex, (w.length : Int) + 2 ≤ y.1) {h c : Nat} (hh : h < w.length + 2) (hc : c ∈ sigs) :
    δM (wordMoves w fo ++ ex) (h : Int) c = (wmv w fo h c).map fun x => x.2.2.1 := by
  cases e : wmv w fo h c with
  | some x =>
    obtain ⟨k1, k2, k3⟩ := wmv_key e
    have hm : x ∈ wordMoves w fo ++ ex := List.mem_append_left _ (mem_wm.mpr ⟨h, hh, c, hc, e⟩)
    obtain ⟨a, b, t, p⟩ := x
    simp only at k1 k2
    subst k1 k2
    exact δM_hit ord hm
  | none =>
    refine δM_miss fun x hx hk => ?_
    rcases List.mem_append.mp hx with hx | hx
    · obtain ⟨h', _, c', _, e'⟩ := mem_wm.mp hx
      obtain ⟨k1, k2, _⟩ := wmv_key e'
      rw [k1, k2] at hk
      have h1 : h' = h := by omega
      have h2 := sg_inj hk.2
      subst h1 h2
      rw [e] at e'
      cases e'
    · have := hex x hx
      omega
section
variable {w : List Nat} {fo : Option Int} {ex : List Mv}
theorem st_al (ord : (wordMoves w fo ++ ex).Pairwise mvlt) (hex : ∀ y ∈ ex, (w.length : Int) + 2 ≤ y.1) (seg : List Nat) {c : Nat} (hc : c ∈ sigs) (ha : alnum c = true) (p : Int) :
    stD (δM (wordMoves w fo ++ ex)) (some ((stOf w seg : Int), p)) c = some ((stOf w (seg ++ [c]) : Int), p + 1) := by
  show (δM (wordMoves w fo ++ ex) (stOf w seg : Int) c).map (fun t => (t, p + 1)) = _
  rw [δ_wm ord hex (stOf_le w seg) hc, stOf_snoc]
  unfold wmv
  rw [if_pos ha]
  show some ((if stOf w seg < w.length ∧ w[stOf w seg]? = some c then (stOf w seg : Int) + 1 else (w.length : Int) + 1), p + 1) = _
  split <;> simp
theorem st_sep (ord : (wordMoves w fo ++ ex).Pairwise mvlt) (hex : ∀ y ∈ ex, (w.length : Int) + 2 ≤ y.1) (seg : List Nat) {c : Nat} (hc : c ∈ sigs) (ha : alnum c = false) (p : Int) :
    stD (δM (wordMoves w fo ++ ex)) (some ((stOf w seg : Int), p)) c = if seg = w then fo.map fun f => (f, p + 1) else some ((stOf w [] : Int), p + 1) := by
  show (δM (wordMoves w fo ++ ex) (stOf w seg : Int) c).map (fun t => (t, p + 1)) = _
  rw [δ_wm ord hex (stOf_le w seg) hc]
  unfold wmv
  rw [if_neg (by rw [ha]; exact Bool.false_ne_true)]
  by_cases h : seg = w
  · rw [if_pos h, if_neg (fun x => x ((stOf_eq w seg).mpr h))]
    cases fo <;> rfl
  · rw [if_neg h, if_pos (fun x => h ((stOf_eq w seg).mp x))]
    rfl
end
theorem hasW_sep (w seg r : List Nat) {c : Nat} (ha : alnum c = false) : hasW w seg (c :: r) = (decide (seg = w) || hasW w [] r) := by
  rw [hasW, if_neg (by rw [ha]; exact Bool.false_ne_true)]
theorem run_found (w : List Nat) : ∀ (cs : List Nat) (p : Int), (∀ c ∈ cs, c ∈ sigs) → accD [(w.length : Int), (w.length : Int) + 2] (runD (δM (wMs w)) cs (some ((w.length : Int) + 2, p))) = some (p + cs.length)
  | [], p, _ => by
    show (if (w.length : Int) + 2 ∈ [(w.length : Int), (w.length : Int) + 2] then some p else none) = _
    rw [if_pos (by simp)]
    simp
  | c :: r, p, hs => by
    have e : stD (δM (wMs w)) (some ((w.length : Int) + 2, p)) c = some ((w.length : Int) + 2, p + 1) := by
      show (δM (wMs w) ((w.length : Int) + 2) c).map (fun t => (t, p + 1)) = _
      rw [δM_hit (wMs_ord w) (t := (w.length : Int) + 2) (p := 1) (List.mem_append_right _ (mem_sm.mpr ⟨c, hs c List.mem_cons_self, rfl⟩))]
      rfl
    rw [runD_cons, e, run_found w r (p + 1) fun x hx => hs x (List.mem_cons_of_mem _ hx)]
    simp only [List.length_cons]
    congr 1
    omega
theorem wex (w : List Nat) : ∀ y ∈ signMoves ((w.length : Int) + 2) ((w.length : Int) + 2) 1, (w.length : Int) + 2 ≤ y.1 := fun y hy => by
  obtain ⟨d, _, rfl⟩ := mem_sm.mp hy
  exact Int.le_refl _
theorem run_with (w : List Nat) : ∀ (cs seg : List Nat) (p : Int), (∀ c ∈ cs, c ∈ sigs) → accD [(w.length : Int), (w.length : Int) + 2] (runD (δM (wMs w)) cs (some ((stOf w seg : Int), p))) = if hasW w seg cs = true then some (p + cs.length) else none
  | [], seg, p, _ => by
    show (if (stOf w seg : Int) ∈ [(w.length : Int), (w.length : Int) + 2] then some p else none) = if decide (seg = w) = true then some (p + 0) else none
    have h1 := stOf_le w seg
    have h2 := stOf_eq w seg
    by_cases h : seg = w
    · rw [if_pos (by rw [h2.mpr h]; simp), if_pos (decide_eq_true h), Int.add_zero]
    · rw [if_neg, if_neg (by simpa using h)]
      intro x
      simp only [List.mem_cons, List.not_mem_nil, or_false] at x
      rcases x with x | x
      · exact h (h2.mp (by omega))
      · omega
  | c :: r, seg, p, hs => by
    have hr : ∀ c ∈ r, c ∈ sigs := fun x hx => hs x (List.mem_cons_of_mem _ hx)
    have hc := hs c List.mem_cons_self
    have el : p + 1 + (r.length : Int) = p + ((c :: r).length : Nat) := by simp only [List.length_cons]; omega
    cases ha : alnum c with
    | true =>
      rw [runD_cons, st_al (wMs_ord w) (wex w) seg hc ha p, run_with w r (seg ++ [c]) (p + 1) hr, el, hasW, if_pos ha]
    | false =>
      rw [runD_cons, st_sep (wMs_ord w) (wex w) seg hc ha p, hasW_sep w seg r ha]
      by_cases h : seg = w
      · rw [if_pos h]
        show accD _ (runD _ r (some ((w.length : Int) + 2, p + 1))) = _
        rw [run_found w r (p + 1) hr, el]
        simp [h]
      · rw [if_neg h, run_with w r [] (p + 1) hr, el]
        simp [h]
theorem wo_ord (w : List Nat) : (wordMoves w none ++ []).Pairwise mvlt := by rw [List.append_nil]; exact wm_ord w none
theorem mem_ends (n h : Nat) : (h : Int) ∈ withoutEnds n ↔ h < n + 2 ∧ h ≠ n := by
  unfold withoutEnds
  simp only [List.mem_map, List.mem_filter, List.mem_range, decide_eq_true_eq]
  constructor
  · rintro ⟨a, h1, h2⟩
    have : a = h := by omega
    subst this
    exact h1
  · exact fun h1 => ⟨h, h1, rfl⟩
theorem run_without (w : List Nat) : ∀ (cs seg : List Nat) (p : Int), (∀ c ∈ cs, c ∈ sigs) → accD (withoutEnds w.length) (runD (δM (wordMoves w none ++ [])) cs (some ((stOf w seg : Int), p))) = if hasW w seg cs = true then none else some (p + cs.length)
  | [], seg, p, _ => by
    show (if (stOf w seg : Int) ∈ withoutEnds w.length then some p else none) = if decide (seg = w) = true then none else some (p + 0)
    have h1 := stOf_le w seg
    have h2 := stOf_eq w seg
    by_cases h : seg = w
    · rw [if_neg (fun x => ((mem_ends _ _).mp x).2 (h2.mpr h)), if_pos (decide_eq_true h)]
    · rw [if_pos ((mem_ends _ _).mpr ⟨h1, fun x => h (h2.mp x)⟩), if_neg (by simpa using h), Int.add_zero]
  | c :: r, seg, p, hs => by
    have hr : ∀ c ∈ r, c ∈ sigs := fun x hx => hs x (List.mem_cons_of_mem _ hx)
    have hc := hs c List.mem_cons_self
    have el : p + 1 + (r.length : Int) = p + ((c :: r).length : Nat) := by simp only [List.length_cons]; omega
    cases ha : alnum c with
    | true =>
      rw [runD_cons, st_al (wo_ord w) (fun y hy => by cases hy) seg hc ha p, run_without w r (seg ++ [c]) (p + 1) hr, el, hasW, if_pos ha]
    | false =>
      rw [runD_cons, st_sep (wo_ord w) (fun y hy => by cases hy) seg hc ha p, hasW_sep w seg r ha]
      by_cases h : seg = w
      · rw [if_pos h]
        show accD _ (runD _ r none) = _
        rw [runD_none]
        simp [h, accD]
      · rw [if_neg h, run_without w r [] (p + 1) hr, el]
        simp [h]
theorem run_upto (n : Nat) : ∀ (cs : List Nat) (h : Nat) (p : Int), h ≤ n → (∀ c ∈ cs, c ∈ sigs) → accD (uptoSigns n).en (runD (δM (uptoMoves n)) cs (some ((h : Int), p))) = if h + cs.length ≤ n then some (p + cs.length) else none
  | [], h, p, hn, _ => by
    show (if (h : Int) ∈ (List.range (n + 1)).map (fun (h : Nat) => (h : Int)) then some p else none) = if h + 0 ≤ n then some (p + 0) else none
    rw [if_pos (List.mem_map.mpr ⟨h, List.mem_range.mpr (by omega), rfl⟩), if_pos (show h + 0 ≤ n from hn), Int.add_zero]
  | c :: r, h, p, hn, hs => by
    have hr : ∀ c ∈ r, c ∈ sigs := fun x hx => hs x (List.mem_cons_of_mem _ hx)
    have hc := hs c List.mem_cons_self
    have e0 : stD (δM (uptoMoves n)) (some ((h : Int), p)) c = (δM (uptoMoves n) (h : Int) c).map fun t => (t, p + 1) := rfl
    have el : p + 1 + (r.length : Int) = p + ((c :: r).length : Nat) := by simp only [List.length_cons]; omega
    rw [runD_cons, e0]
    by_cases hh : h < n
    · rw [δM_hit (up_ord n) (t := (h : Int) + 1) (p := 1) (mem_up.mpr ⟨h, hh, c, hc, rfl⟩)]
      show accD _ (runD _ r (some (((h + 1 : Nat) : Int), p + 1))) = _
      rw [run_upto n r (h + 1) (p + 1) (by omega) hr, el]
      simp only [List.length_cons]
      rw [show h + 1 + r.length = h + (r.length + 1) by omega]
    · rw [δM_miss fun x hx hk => by
        obtain ⟨h', h1, c', _, rfl⟩ := mem_up.mp hx
        have : (h' : Int) = h := hk.1
        omega]
      show accD _ (runD _ r none) = _
      rw [runD_none, if_neg (by simp only [List.length_cons]; omega)]
      rfl
end N1
set_option Elab.async false
set_option linter.all false
set_option maxRecDepth 100000
namespace N1
open PySem PySem.Spec PyProof.Rows L2 TL
/-! ### what the law asks is so -/
theorem words_has (z t : Str) (hs : Sn t) : decide (tl z ∈ wordsOf (tl t)) = hasW (tl z) [] (tl t) := hasW_spl (tl z) (tl t) [] hs
theorem ok_w (z t : Str) (hz : z.length ≤ 1000) (hs : Sn t) (hl : t.length ≤ 100000) : okQ (withWord (tl z)) (δM (withWord (tl z)).ms) (t, decide (tl z ∈ wordsOf (tl t))) := by
  refine ⟨hl, ?_⟩
  show accD [((tl z).length : Int), ((tl z).length : Int) + 2] (runD (δM (srt (wMs (tl z)))) (tl t) (some (0, 0))) = if decide (tl z ∈ wordsOf (tl t)) = true then some (t.length : Int) else none
  rw [srt_id (wMs_ord _), words_has z t hs]
  have h := run_with (tl z) (tl t) [] 0 hs
  rw [show ((stOf (tl z) [] : Nat) : Int) = 0 from rfl] at h
  rw [h, Int.zero_add, ← len_tl]
theorem ok_wo (z t : Str) (hz : z.length ≤ 1000) (hs : Sn t) (hl : t.length ≤ 100000) : okQ (withoutWord (tl z)) (δM (withoutWord (tl z)).ms) (t, !decide (tl z ∈ wordsOf (tl t))) := by
  refine ⟨hl, ?_⟩
  show accD (withoutEnds (tl z).length) (runD (δM (srt (wordMoves (tl z) none))) (tl t) (some (0, 0))) = if (!decide (tl z ∈ wordsOf (tl t))) = true then some (t.length : Int) else none
  rw [srt_id (wm_ord _ _), words_has z t hs]
  have h := run_without (tl z) (tl t) [] 0 hs
  rw [show ((stOf (tl z) [] : Nat) : Int) = 0 from rfl, List.append_nil] at h
  rw [h, Int.zero_add, ← len_tl]
  cases hasW (tl z) [] (tl t) <;> rfl
theorem ok_u (n : Nat) (t : Str) (hs : Sn t) (hl : t.length ≤ 100000) : okQ (uptoSigns n) (δM (uptoSigns n).ms) (t, decide (t.length ≤ n)) := by
  refine ⟨hl, ?_⟩
  show accD (uptoSigns n).en (runD (δM (uptoMoves n)) (tl t) (some (((0 : Nat) : Int), 0))) = if decide (t.length ≤ n) = true then some (t.length : Int) else none
  rw [run_upto n (tl t) 0 0 (Nat.zero_le _) hs, Int.zero_add, Nat.zero_add, ← len_tl]
  by_cases h : t.length ≤ n <;> simp [h]
theorem occ_let : ∀ c ∈ sigs, alnum c = true → (Builtin.Str.occurrences LET (sg c) 0 LET.length 1) ≠ [] := by decide +kernel
theorem cut_one (ps : List Str) (h : 1 ≤ ps.length) : cutV (ps.map V.str) (some 1) none = (ps.drop 1).map V.str := by
  unfold cutV
  rw [HT.sIx_none, show (some (1 : Int)) = some ((1 : Nat) : Int) from rfl, HT.sIx_nat, List.length_map, Nat.min_eq_left h, ← List.map_drop]
  exact List.take_of_length_le (by simp)
theorem str_of_tl {x y : Str} (h : tl x = tl y) : x = y := by
  cases x; cases y
  simp only [tl] at h
  congr 1
  exact Array.toList_inj.mp h
theorem inV_strs (z : Str) : ∀ ys : List Str, inV (.str z) (ys.map V.str) = decide (tl z ∈ ys.map tl)
  | [] => rfl
  | y :: ys => by
    have h := inV_strs z ys
    unfold inV at h ⊢
    rw [List.map_cons, List.any_cons, h]
    by_cases e : y = z
    · subst e
      simp [eqV]
    · have e2 : ¬ tl z = tl y := fun x => e (str_of_tl x.symm)
      simp [eqV, e, e2]
theorem strs_at2 {ps : List Str} {i : Nat} {x : V} (h : (ps.map V.str)[i]? = some x) : ∃ z, ps[i]? = some z ∧ x = .str z := by
  rw [List.getElem?_map] at h
  cases e : ps[i]? with
  | none => rw [e] at h; cases h
  | some z => rw [e] at h; exact ⟨z, rfl, (Option.some.inj h).symm⟩
/-- a sized text and what is due -/
def okS (n : Nat) (x : Str × Bool) : Prop := Sn x.1 ∧ x.1.length ≤ 1000 ∧ x.2 = decide (x.1.length ≤ n)
structure SzL (d g s p q : Addr) (ps : List Str) (H0 Hx : Hp) (n c : Nat) : Prop where
  dk : Dk d g s H0 Hx
  pl : Hx p = some (.lst (ps.map V.str))
  sz : ∃ (xs : List V) (as : List (Str × Bool)), Hx q = some (.lst xs) ∧ Ims Hx xs (as.map qD) ∧ (∀ x ∈ as, okS n x) ∧ as.length ≤ c
theorem SzL.push {d g s p q u : Addr} {ps : List Str} {H0 Hx : Hp} {n c : Nat} {xs : List V} {as : List (Str × Bool)} {y : Str} {b : Bool} (dr : Dr H0 d g s) (k : Dk d g s H0 Hx) (pl : Hx p = some (.lst (ps.map V.str))) (npq : p ≠ q)
    (h0 : H0 q = none) (hx : Hx q = some (.lst xs)) (hI : Ims Hx xs (as.map qD)) (hok : ∀ x ∈ as, okS n x) (hc : as.length ≤ c) (hu : Hx u = none) (hy : okS n (y, b)) :
    SzL d g s p q ps H0 (upd (upd Hx u (.tup [.str y, .bl b])) q (.lst (xs ++ [.ref u]))) n (c + 1) := by
  have nqu : q ≠ u := ne_of_none hx hu
  have k1 : Dk d g s H0 (upd Hx u (.tup [.str y, .bl b])) := k.put dr (k.none_of hu) (fun xs z => by rw [hu] at z; cases z)
  refine ⟨k1.lst dr h0 ((upd_ne nqu).trans hx), (upd_ne npq).trans ((upd_ne (ne_of_none pl hu)).trans pl), ?_⟩
  obtain ⟨zs, h1, h2⟩ := Ls.push (vs := [.str y, .bl b]) (es := [.str y, .bool b]) hx hI hu (.cons (.str y) (.cons (.bl b) .nil))
  refine ⟨zs, as ++ [(y, b)], h1, by rw [List.map_append]; exact h2, fun x hx => ?_, by simp; omega⟩
  rcases List.mem_append.mp hx with h | h
  · exact hok x h
  · rw [List.mem_singleton.mp h]
    exact hy
theorem keep2 {Hx : Hp} {q u e : Addr} {o a b : HO} (he : Hx e = some o) (hu : Hx u = none) (nq : e ≠ q) : upd (upd Hx u a) q b e = some o := (upd_ne nq).trans ((upd_ne (ne_of_none he hu)).trans he)
/-- the texts' list t, the pool p, the draws -/
structure LSt (d g s p t : Addr) (ps : List Str) (H0 Hx : Hp) (n : Nat) : Prop where
  dk : Dk d g s H0 Hx
  pl : Hx p = some (.lst (ps.map V.str))
  tx : TxL Hx t 200 n
section
variable {P : Program} {w : World} {K : PySem.W.Frag} {mg : Str → Option Value} {base : Heap}
/-! ### law -/
def sp_law (K : PySem.W.Frag) : Sp := fun vs H Q _ => ∃ (a : Addr) (ns : List Int), vs = [.ref a] ∧ SqL K H a (ns.map V.int) ∧ ns.length ≤ 63 ∧ ∀ H', Q (.bl true) H'
abbrev s_law : Stmt := topS 28
theorem sc_law : FnScope ["script", "draws", "wide", "word", "pool", "letters", "beside", "texts", "asked", "number", "sized", "size", "text", "k", "due"] ["script"] (defScope s_law) := ⟨rfl, rfl, rfl, by decide +kernel, rfl, by decide +kernel, by decide +kernel⟩
theorem ok_law {f : Addr} {fd : FuncData} (F : Fun K "law" "law" s_law f fd) (T : Txt mg) (D_law_begin : Df P w K mg base 1 "_law_begin" ["script"] (sp_begin K)) (D_law_pick : Df P w K mg base 1 "_law_pick" ["draws", "many"] sp_pick)
    (D_law_word : Df P w K mg base 2 "_law_word" ["draws", "most", "few"] sp_word) (D_law_pool : Df P w K mg base 3 "_law_pool" ["draws", "word"] sp_pool) (D_law_letters : Df P w K mg base 1 "_law_letters" [] sp_letters)
    (D_law_expression : Df P w K mg base 2 "_law_expression" ["draws", "pool", "steps", "most"] sp_expr) (D_law_all_small : Df P w K mg base 1 "_law_all_small" ["one", "other"] sp_small) (D_law_words : Df P w K mg base 1 "_law_words" ["text"] sp_words)
    (D_law_takes : Df P w K mg base 4 "_law_takes" ["machine", "asked"] sp_takes) (D_with_word : Df P w K mg base 2 "with_word" ["word"] (spWord withWord)) (D_without_word : Df P w K mg base 2 "without_word" ["word"] (spWord withoutWord))
    (D_law_sized : Df P w K mg base 1 "_law_sized" ["text", "size"] sp_sized) (D_upto_signs : Df P w K mg base 2 "upto_signs" ["number"] sp_upto) :
    FnOk P w K mg base CX0 5 f fd ["script"] (sp_law K) := by
  refine F.ok sc_law (fun vs H Q E h => ?_) (fun cdv A outer s0 H vs Q E hr h => ?_)
  · obtain ⟨a, ns, rfl, _⟩ := h
    rfl
  · obtain ⟨a, ns, rfl, hS, hlen, k⟩ := h
    refine ⟨_, (pss_cons (ps_set (i := 1) sc_law.nd rfl (Or.inr rfl) (pe_d D_law_begin (hr.mono (by decide)) rfl (pa_cons (pv 0) pa_nil)))
 (pss_cons (ps_set (i := 2) sc_law.nd rfl (Or.inl rfl) (pe_cmpR op_eq (pe_d D_law_pick (hr.mono (by decide)) rfl (pa_cons (pv 1) (pa_cons pe_int pa_nil))) pe_int (nomark _)))
 (pss_cons (ps_set (i := 3) sc_law.nd rfl (Or.inr rfl) (pe_d D_law_word (hr.mono (by decide)) rfl (pa_cons (pv 1) (pa_cons pe_int (pa_cons (pe_op op_add pe_int (pe_op op_mul pe_int (pe_d D_law_pick (hr.mono (by decide)) rfl (pa_cons (pv 1) (pa_cons pe_int pa_nil))))) pa_nil)))))
 (pss_cut (ps_if (pt_cmpR op_eq (pe_d D_law_pick (hr.mono (by decide)) rfl (pa_cons (pv 1) (pa_cons pe_int pa_nil))) pe_int (nomark _))
 (pss_one (ps_set (i := 3) sc_law.nd rfl (Or.inr rfl) (pe_slice sl_str (pv 3) po_none (po_some pe_int))))
 pss_nil)
 (pss_cons (ps_set (i := 4) sc_law.nd rfl (Or.inr rfl) (pe_d D_law_pool (hr.mono (by decide)) rfl (pa_cons (pv 1) (pa_cons (pv 3) pa_nil))))
 (pss_cons (ps_set (i := 5) sc_law.nd rfl (Or.inl rfl) (pe_d0 D_law_letters (hr.mono (by decide)) rfl))
 (pss_cons (ps_set (i := 6) sc_law.nd rfl (Or.inl rfl) (pe_ix ix_str (pv 5) (pe_op op_mod (pe_callTy call_int1 (by rfl) T.b_int (by decide +kernel) (pa_cons (pe_op op_add (pe_op op_add (pe_bm PySem.F.plainAttrs_str PySem.F.slot_str_index PySem.F.type_str_index mt_sindex (pv 5) (pa_cons (pe_ix ix_str (pv 3) pe_int (fun _ _ => rfl)) pa_nil)) pe_int) (pe_d D_law_pick (hr.mono (by decide)) rfl (pa_cons (pv 1) (pa_cons pe_int pa_nil)))) pa_nil)) pe_int) (fun _ _ => rfl)))
 (pss_cons (ps_set (i := 7) sc_law.nd rfl (Or.inl rfl) (pe_lst (pa_cons (pv 3) (pa_cons (pe_op op_add_str pe_str (pv 3)) (pa_cons (pe_op op_add_str (pe_op op_add_str pe_str (pv 3)) pe_str) (pa_cons (pe_op op_add_str (pv 3) pe_str) (pa_cons (pe_op op_add_str (pe_op op_add_str pe_str (pv 3)) pe_str) (pa_cons (pe_op op_add_str (pe_op op_add_str (pv 3) pe_str) (pv 3)) (pa_cons (pe_ix ix_list (pv 4) pe_int (fun _ _ => rfl)) (pa_cons (pe_ix ix_list (pv 4) pe_int (fun _ _ => rfl)) pa_nil))))))))))
 (pss_cons (ps_expr (pe_bm PySem.F.plainAttrs_list PySem.F.slot_list_extend PySem.F.type_list_extend mt_extend (pv 7) (pa_cons (pe_lc (own := [("k", 13)]) (g := gName 13) (by rfl) sc_law.nd (pi_range1 (by rfl) T.b_range (pa_cons pe_int pa_nil)) (blkOk_by (own := [("k", 13)]) (N := ["script", "draws", "wide", "word", "pool", "letters", "beside", "texts", "asked", "number", "sized", "size", "text", "k", "due"]) (sc := defScope s_law) (by decide +kernel)) (fun _ _ _ _ _ => pg_name (i := 13) sc_law.nd rfl (Or.inl rfl)) (fun _ _ _ _ _ => pts_nil) (fun _ _ _ _ _ => (pe_d D_law_expression (hr.mono (by decide)) rfl (pa_cons (pv 1) (pa_cons (pv 4) (pa_cons (pe_d D_law_pick (hr.mono (by decide)) rfl (pa_cons (pv 1) (pa_cons pe_int pa_nil))) (pa_cons pe_int pa_nil))))))) pa_nil)))
 (pss_cons (ps_expr (pe_bm PySem.F.plainAttrs_list PySem.F.slot_list_extend PySem.F.type_list_extend mt_extend (pv 7) (pa_cons (pe_d D_law_all_small (hr.mono (by decide)) rfl (pa_cons (pe_ix ix_str (pv 3) pe_int (fun _ _ => rfl)) (pa_cons (pv 6) pa_nil))) pa_nil)))
 (pss_cut (ps_if (pt_val (pv 2))
 (pss_cons (ps_expr (pe_bm PySem.F.plainAttrs_list PySem.F.slot_list_append PySem.F.type_list_append mt_append (pv 7) (pa_cons (pe_d D_law_expression (hr.mono (by decide)) rfl (pa_cons (pv 1) (pa_cons (pv 4) (pa_cons pe_int (pa_cons pe_int pa_nil))))) pa_nil)))
 (pss_one (ps_expr (pe_bm PySem.F.plainAttrs_list PySem.F.slot_list_append PySem.F.type_list_append mt_append (pv 7) (pa_cons (pe_d D_law_expression (hr.mono (by decide)) rfl (pa_cons (pv 1) (pa_cons (pe_slice sl_list (pv 4) (po_some pe_int) po_none) (pa_cons pe_int (pa_cons pe_int pa_nil))))) pa_nil)))))
 pss_nil)
 (pss_cons (ps_setLc (i := 8) (own := [("text", 12)]) (g := gName 12) rfl sc_law.nd rfl rfl (sw_true rfl rfl rfl (by decide +kernel)) (pi_list (pv 7)) (blkOk_by (own := [("text", 12)]) (N := ["script", "draws", "wide", "word", "pool", "letters", "beside", "texts", "asked", "number", "sized", "size", "text", "k", "due"]) (sc := defScope s_law) (by decide +kernel)) (fun _ _ _ _ _ => pg_name (i := 12) sc_law.nd rfl (Or.inl rfl)) (fun _ _ _ _ _ => pts_nil) (fun _ _ _ _ _ => (pe_tup (pa_cons (pv 12) (pa_cons (pe_cmpR (r := rIn K false) op_in_seq (pv 3) (pe_d D_law_words (hr.mono (by decide)) rfl (pa_cons (pv 12) pa_nil)) (by rfl)) pa_nil)))))
 (pss_cons (ps_if (pt_not (pt_val (pe_d D_law_takes hr rfl (pa_cons (pe_d D_with_word (hr.mono (by decide)) rfl (pa_cons (pv 3) pa_nil)) (pa_cons (pv 8) pa_nil)))))
 (pss_one (ps_ret pe_bl))
 pss_nil)
 (pss_cons (ps_if (pt_not (pt_val (pe_d D_law_takes hr rfl (pa_cons (pe_d D_without_word (hr.mono (by decide)) rfl (pa_cons (pv 3) pa_nil)) (pa_cons (pe_lc (own := [("text", 12), ("due", 14)]) (g := gTup K 2 (gCons (gName 12) (gCons (gName 14) gNil))) (by rfl) sc_law.nd (pi_list (pv 8)) (blkOk_by (own := [("text", 12), ("due", 14)]) (N := ["script", "draws", "wide", "word", "pool", "letters", "beside", "texts", "asked", "number", "sized", "size", "text", "k", "due"]) (sc := defScope s_law) (by decide +kernel)) (fun _ _ _ _ _ => (pg_tup (by rfl) (pgs_cons (pg_name (i := 12) sc_law.nd rfl (Or.inl rfl)) (pgs_cons (pg_name (i := 14) sc_law.nd rfl (Or.inl rfl)) pgs_nil)))) (fun _ _ _ _ _ => pts_nil) (fun _ _ _ _ _ => (pe_tup (pa_cons (pv 12) (pa_cons (pe_not (pv 14)) pa_nil))))) pa_nil)))))
 (pss_one (ps_ret pe_bl))
 pss_nil)
 (pss_cons (ps_set (i := 9) sc_law.nd rfl (Or.inl rfl) (pe_d D_law_pick (hr.mono (by decide)) rfl (pa_cons (pv 1) (pa_cons pe_int pa_nil))))
 (pss_cut (ps_if (pt_val (pv 2))
 (pss_one (ps_set (i := 9) sc_law.nd rfl (Or.inl rfl) (pe_op op_add pe_int (pe_d D_law_pick (hr.mono (by decide)) rfl (pa_cons (pv 1) (pa_cons pe_int pa_nil))))))
 pss_nil)
 (pss_cons (ps_set (i := 10) sc_law.nd rfl (Or.inl rfl) (pe_lst pa_nil))
 (pss_cons (ps_for PassesOwn.never rfl (pi_list (pe_lst (pa_cons (pe_op op_sub (pv 9) pe_int) (pa_cons (pv 9) (pa_cons (pe_op op_add (pv 9) pe_int) (pa_cons (pe_op op_add (pe_op op_add (pv 9) pe_int) (pe_d D_law_pick (hr.mono (by decide)) rfl (pa_cons (pv 1) (pa_cons pe_int pa_nil)))) pa_nil)))))) (pg_name (i := 11) sc_law.nd rfl (Or.inl rfl))
 (pss_one (ps_if (pt_cmpR op_gt (pv 11) pe_int (nomark _))
 (pss_cons (ps_set (i := 12) sc_law.nd rfl (Or.inl rfl) (pe_d D_law_expression (hr.mono (by decide)) rfl (pa_cons (pv 1) (pa_cons (pv 4) (pa_cons (pe_d D_law_pick (hr.mono (by decide)) rfl (pa_cons (pv 1) (pa_cons (pe_op op_add pe_int (pe_op op_mul pe_int (pe_callTy call_int1 (by rfl) T.b_int (by decide +kernel) (pa_cons (pv 2) pa_nil)))) pa_nil))) (pa_cons (pv 11) pa_nil))))))
 (pss_cons (ps_expr (pe_bm PySem.F.plainAttrs_list PySem.F.slot_list_append PySem.F.type_list_append mt_append (pv 10) (pa_cons (pe_tup (pa_cons (pe_d D_law_sized (hr.mono (by decide)) rfl (pa_cons (pv 12) (pa_cons (pv 11) pa_nil))) (pa_cons (pe_cmpR op_le (pv 11) (pv 9) (nomark _)) pa_nil))) pa_nil)))
 (pss_one (ps_expr (pe_bm PySem.F.plainAttrs_list PySem.F.slot_list_append PySem.F.type_list_append mt_append (pv 10) (pa_cons (pe_tup (pa_cons (pe_d D_law_sized (hr.mono (by decide)) rfl (pa_cons pe_str (pa_cons (pv 11) pa_nil))) (pa_cons (pe_cmpR op_le (pv 11) (pv 9) (nomark _)) pa_nil))) pa_nil))))))
 pss_nil)))
 (pss_cons (ps_expr (pe_bm PySem.F.plainAttrs_list PySem.F.slot_list_append PySem.F.type_list_append mt_append (pv 10) (pa_cons (pe_tup (pa_cons pe_str (pa_cons (pe_cmpR op_ge (pv 9) pe_int (nomark _)) pa_nil))) pa_nil)))
 (pss_cons (ps_expr (pe_bm PySem.F.plainAttrs_list PySem.F.slot_list_append PySem.F.type_list_append mt_append (pv 10) (pa_cons (pe_tup (pa_cons pe_str (pa_cons (pe_cmpR op_ge (pv 9) pe_int (nomark _)) pa_nil))) pa_nil)))
 (pss_one (ps_ret (pe_d D_law_takes hr rfl (pa_cons (pe_d D_upto_signs (hr.mono (by decide)) rfl (pa_cons (pv 9) pa_nil)) (pa_cons (pv 10) pa_nil))))))))))))))))))))))))), ?_⟩
    refine ⟨_, rfl, a, ns, rfl, hS, hlen, fun d g s H0 s0 dr => ?_⟩
    refine ⟨_, rfl, d, g, s, 7, rfl, dr, by decide, by decide, fun r H2 r0 r1 k2 => ⟨rfl, ?_⟩⟩
    dsimp only [gName]
    generalize decide (V.int r = V.int 4) = wide
    refine ⟨_, rfl, _, rfl, d, g, s, 2, rfl, k2.dr, by decide, by decide, fun r2 H3 r20 r21 k3 => ⟨_, _, rfl, rfl, .inl ⟨by decide, by decide⟩, _, _, rfl, rfl, ?_⟩⟩
    have k3 := k2.trans k3
    refine ⟨d, g, s, 8, 2 + 34 * r2, rfl, k3.dr, by decide, by decide, by omega, by omega, fun z0 H4 al0 zl1 zl2 k4 => ?_⟩
    have k4 := k3.trans k4
    refine ⟨fun σ' H' => ∃ z : Str, σ' = [some (.ref a), some (.ref d), some (.bl wide), some (.str z), none, none, none, none, none, none, none, none, none, none, none] ∧ AlL 8 z ∧ 1 ≤ z.length ∧ Dk d g s H0 H', ?_, ?_⟩
    · refine ⟨_, rfl, d, g, s, 3, rfl, k4.dr, by decide, by decide, fun r3 H5 r30 r31 k5 => ⟨rfl, _, rfl, ite2 (fun _ => ?_) (fun _ => ?_)⟩⟩
      · refine ⟨_, rfl, _, rfl, z0, rfl, small5 (by omega), ?_⟩
        refine ⟨_, rfl, ⟨al0.cut _ _, ?_⟩, ?_, k4.trans k5⟩
        · rw [cut_pre_len _ (by decide)]
          omega
        · rw [cut_pre_len _ (by decide)]
          show 1 ≤ min 2 z0.length
          omega
      · exact ⟨z0, rfl, ⟨al0, by omega⟩, zl1, k4.trans k5⟩
    rintro σ H5 ⟨z, rfl, hz, hz1, k5⟩
    have hz8 := hz.2
    have sz := hz.sz (by decide)
    clear al0 zl1 zl2 k4 k3 k2
    -- pool
    refine ⟨_, rfl, _, rfl, d, g, s, z, rfl, k5.dr, hz, hz1, fun p ps H6 hp hP l6 l20 k6 => ?_⟩
    obtain ⟨npd, npg, nps⟩ := k5.dr.ne hp
    have k6 := k5.trans k6
    have hp0 := k5.none_of hp
    obtain ⟨hpl, hps, _, _⟩ := id hP
    have sp : ∀ x ∈ ps, SnL 20 x := fun x hx => ⟨(hps x hx).1.sn, (hps x hx).2⟩
    refine ⟨rfl, ?_⟩
    dsimp only [gName]
    -- beside
    obtain ⟨c0, hc0, at0⟩ := hz.at_ (j := 0) (by omega)
    obtain ⟨oi, orest, hocc⟩ : ∃ i rest, Builtin.Str.occurrences LET (sg c0) 0 LET.length 1 = i :: rest := by
      cases e : Builtin.Str.occurrences LET (sg c0) 0 LET.length 1 with
      | nil => exact absurd e (occ_let c0 (alnum_sig hc0) hc0)
      | cons i rest => exact ⟨i, rest, rfl⟩
    refine ⟨_, rfl, _, rfl, rfl, _, rfl, z, 0, c0, rfl, rfl, sz, at_any (j := 0) rfl at0, LET, sg c0, oi, orest, rfl, rfl, hocc, _, _, rfl, rfl, _, rfl, d, g, s, 35, rfl, k6.dr, by decide, by decide, fun r4 H7 r40 r41 k67 => ?_⟩
    have k7 := k6.trans k67
    refine ⟨_, _, rfl, rfl, .inl ⟨_, rfl, _, _, rfl, rfl, show (0 : Int) < 36 by decide, ?_⟩⟩
    have rr := @mod_range ((oi : Int) + 1 + r4) 36 (by decide)
    have hj : (((oi : Int) + 1 + r4) % 36).toNat < lets.length := by show _ < 36; omega
    refine ⟨LET, _, lets[(((oi : Int) + 1 + r4) % 36).toNat], rfl, rfl, by decide +kernel, at_any (j := (((oi : Int) + 1 + r4) % 36).toNat) (by omega) (by rw [show LET.cps.toList = lets from tl_LET]; exact List.getElem?_eq_getElem hj), ?_⟩
    have hc1 := lets_alnum _ (List.getElem_mem hj)
    generalize lets[(((oi : Int) + 1 + r4) % 36).toNat] = c1 at *
    have hp7 := k67.at_ hpl npd npg
    obtain ⟨p1, hp1, at1⟩ := pick_at (ps := ps) (r := 1) (by decide) (by rw [List.length_map]; omega)
    obtain ⟨p2, hp2, at2⟩ := pick_at (ps := ps) (r := 2) (by decide) (by rw [List.length_map]; omega)
    have lz : SnL 8 z := ⟨hz.1.sn, hz8⟩
    have qa : SnL 2 (Str.ofString "a.") := ⟨by unfold Sn; decide +kernel, by decide +kernel⟩
    have qb : SnL 2 (Str.ofString "a(") := ⟨by unfold Sn; decide +kernel, by decide +kernel⟩
    have qc : SnL 3 (Str.ofString "(b)") := ⟨by unfold Sn; decide +kernel, by decide +kernel⟩
    have qd : SnL 6 (Str.ofString "a.b(c,") := ⟨by unfold Sn; decide +kernel, by decide +kernel⟩
    refine ⟨_, rfl, _, rfl, _, _, rfl, rfl, qa.fit lz (by decide), _, rfl, _, _, rfl, rfl, qb.fit lz (by decide), _, _, rfl, rfl, (qb.app lz).fit l_cl (by decide), _, rfl, _, _, rfl, rfl, lz.fit qc (by decide), ?_⟩
    refine ⟨_, rfl, _, _, rfl, rfl, qd.fit lz (by decide), _, _, rfl, rfl, (qd.app lz).fit l_cl (by decide), _, rfl, _, _, rfl, rfl, lz.fit l_dot (by decide), _, rfl, _, _, rfl, rfl, (lz.app l_dot).fit lz (by decide), ?_⟩
    refine ⟨_, rfl, p, _, 1, _, rfl, rfl, SqL.of hp7, at1, _, rfl, p, _, 2, _, rfl, rfl, SqL.of hp7, at2, small5 (by simp), fun t ht => ?_⟩
    have npt : p ≠ t := ne_of_none hp7 ht
    have ht0 := k7.none_of ht
    obtain ⟨ntd, ntg, nts⟩ := k7.dr.ne ht
    refine gen_st (H0 := upd H7 t (.lst ([z, Str.ofString "a." ++ z, Str.ofString "a(" ++ z ++ Str.ofString ")", z ++ Str.ofString "(b)", Str.ofString "a.b(c," ++ z ++ Str.ofString ")", z ++ Str.ofString "." ++ z, p1, p2].map V.str))) (Gd := fun Hx => LSt d g s p t ps H0 Hx 8) ⟨k7.put dr ht0 (fun xs q => by rw [ht] at q; cases q), (upd_ne npt).trans hp7, _, upd_same, ?_, by simp⟩ ?_
    · simp only [List.mem_cons, List.not_mem_nil, or_false]
      rintro x (rfl | rfl | rfl | rfl | rfl | rfl | rfl | rfl)
      · exact lz.mono (by decide)
      · exact (qa.app lz).mono (by decide)
      · exact ((qb.app lz).app l_cl).mono (by decide)
      · exact (lz.app qc).mono (by decide)
      · exact ((qd.app lz).app l_cl).mono (by decide)
      · exact ((lz.app l_dot).app lz).mono (by decide)
      · exact (sp _ hp1).mono (by decide)
      · exact (sp _ hp2).mono (by decide)
    rintro H8 L8
    clear k7 k67 hp7 ht at1 at2
    -- eight expressions more
    obtain ⟨k8, pl8, t8s, t8, h8t, l8⟩ := L8
    refine ⟨_, rfl, .inl ⟨rfl, _, SqL.of t8⟩, _, rfl, by decide, by decide, fun D hD => ?_⟩
    obtain ⟨nDd, nDg, nDs⟩ := k8.dr.ne hD
    refine lc_good1 walk_range (fun Hx => Dk d g s H8 Hx) (fun i ds => ∃ cs : List Str, ds = cs.map PyData.str ∧ (∀ c ∈ cs, SnL 200 c) ∧ cs.length = i) (Dk.new k8.dr hD) ⟨[], rfl, by simp, rfl⟩ (fun _ _ => trivial) (fun Hx ys zs p q => p.lst k8.dr hD q) (by decide) ?_ ?_
    · rintro i x H3 H4 ys ds hi p3 hl hI ⟨cs, rfl, hcs, rfl⟩ ⟨rfl, rfl⟩ K1 kk
      refine ⟨rfl, _, rfl, _, rfl, _, rfl, d, g, s, 5, rfl, p3.dr, by decide, by decide, fun r Hy r0 r1 k5 => ?_⟩
      have ky := p3.trans k5
      refine ⟨d, g, s, p, ps, r, 60, rfl, k5.dr, ⟨ky.at_ pl8 npd npg, hps, by omega, by omega⟩, npg, by omega, by omega, by decide, by decide, fun tx Hz sn ln k6 => ?_⟩
      refine kk _ Hz (.str tx) (ky.trans k6) (k5.trans k6).tk ((k5.trans k6).at_ hl nDd nDg) (.str _) ⟨cs ++ [tx], by simp, fun c hc => ?_, by simp⟩
      rcases List.mem_append.mp hc with h | h
      · exact hcs c h
      · rw [List.mem_singleton.mp h]
        exact ⟨sn, by omega⟩
    rintro H9 ys ds p9 hl hI ⟨cs, rfl, hcs, lcs⟩
    have ey := Ims.strs_of hI
    subst ey
    have t9 := p9.at_ t8 ntd ntg
    refine ⟨t, D, _, _, rfl, rfl, t9, hl, small5 (by simp only [List.length_map]; rw [lcs]; omega), ?_⟩
    have L9 : LSt d g s p t ps H0 (upd H9 t (.lst (t8s.map V.str ++ cs.map V.str))) 16 := ⟨(k8.trans p9).lst dr ht0 t9, (upd_ne npt).trans (p9.at_ pl8 npd npg), TxL.ext h8t hcs (by rw [lcs]; omega)⟩
    refine gen_st (Gd := fun Hx => LSt d g s p t ps H0 Hx 16) L9 ?_
    clear L9 t9 hl hI p9 k8 pl8 t8 h8t l8 hD
    rintro H10 ⟨k10, pl10, ts, t10, h10, l10⟩
    -- all small ones
    refine ⟨_, rfl, .inl ⟨rfl, _, SqL.of t10⟩, _, rfl, z, 0, c0, rfl, rfl, sz, at_any (j := 0) rfl at0, _, rfl, sg c0, sg c1, rfl, ⟨(AlL.sg hc0).1.sn, Nat.le_refl _⟩, ⟨(AlL.sg hc1).1.sn, Nat.le_refl _⟩, fun q H11 hq hTx s11 => ?_⟩
    obtain ⟨cs1, hq', hcs1, lcs1⟩ := hTx
    refine ⟨t, q, _, _, rfl, rfl, s11 _ _ t10, hq', small5 (by simp only [List.length_map]; omega), ?_⟩
    refine gen_st (Gd := fun Hx => LSt d g s p t ps H0 Hx 126) ⟨(k10.same s11).lst dr ht0 (s11 _ _ t10), (upd_ne npt).trans (s11 _ _ pl10), TxL.ext h10 (fun x hx => (hcs1 x hx).mono (by decide)) (by omega)⟩ ?_
    clear hq' hq s11 k10 pl10 t10 h10 l10
    rintro H12 ⟨k12, pl12, ts, t12, h12, l12⟩
    refine ⟨fun σ' H' => σ' = [some (.ref a), some (.ref d), some (.bl wide), some (.str z), some (.ref p), some (.str LET), some (.str (sg c1)), some (.ref t), none, none, none, none, none, none, none] ∧ LSt d g s p t ps H0 H' 128, ?_, ?_⟩
    · refine ⟨_, rfl, _, rfl, ite2 (fun _ => ?_) (fun _ => ?_)⟩
      · refine ⟨_, rfl, .inl ⟨rfl, _, SqL.of t12⟩, _, rfl, _, rfl, d, g, s, p, ps, 40, 120, rfl, k12.dr, ⟨pl12, hps, by omega, by omega⟩, npg, by decide, by decide, by decide, by decide, fun tx Hy sn ln ky => ?_⟩
        have ty := ky.at_ t12 ntd ntg
        have py := ky.at_ pl12 npd npg
        refine ⟨t, _, _, rfl, rfl, ty, small5' (by rw [List.length_map]; omega), ?_⟩
        refine gen_st (Gd := fun Hx => LSt d g s p t ps H0 Hx 127) ⟨(k12.trans ky).lst dr ht0 ty, (upd_ne npt).trans py, TxL.ext (cs := [tx]) h12 (fun x hx => by rw [List.mem_singleton.mp hx]; exact ⟨sn, by omega⟩) (by show ts.length + 1 ≤ 127; omega)⟩ ?_
        clear ty py ky sn ln k12 pl12 t12 h12 l12
        rintro H13 ⟨k13, pl13, ts, t13, h13, l13⟩
        refine ⟨_, rfl, .inl ⟨rfl, _, SqL.of t13⟩, _, rfl, _, rfl, _, rfl, p, _, rfl, SqL.of pl13, fun e he => ?_⟩
        rw [cut_one ps (by omega)]
        obtain ⟨ned, neg, nes⟩ := k13.dr.ne he
        have nte : t ≠ e := ne_of_none t13 he
        have npe : p ≠ e := ne_of_none pl13 he
        have ke : Dk d g s H13 (upd H13 e (.lst ((ps.drop 1).map V.str))) := Dk.new k13.dr he
        refine ⟨d, g, s, e, ps.drop 1, 40, 120, rfl, ke.dr, ⟨upd_same, fun x hx => hps x (List.mem_of_mem_drop hx), by rw [List.length_drop]; omega, by rw [List.length_drop]; omega⟩, neg, by decide, by decide, by decide, by decide, fun tx Hy sn ln ky => ?_⟩
        have ty := ky.at_ ((upd_ne nte).trans t13) ntd ntg
        have py := ky.at_ ((upd_ne npe).trans pl13) npd npg
        refine ⟨t, _, _, rfl, rfl, ty, small5' (by rw [List.length_map]; omega), ?_⟩
        exact ⟨rfl, ((k13.trans ke).trans ky).lst dr ht0 ty, (upd_ne npt).trans py, TxL.ext (cs := [tx]) h13 (fun x hx => by rw [List.mem_singleton.mp hx]; exact ⟨sn, by omega⟩) (by show ts.length + 1 ≤ 128; omega)⟩
      · exact ⟨rfl, k12, pl12, ts, t12, h12, by omega⟩
    rintro σ H13 ⟨rfl, k13, pl13, ts, t13, h13, l13⟩
    -- asked
    refine ⟨_, rfl, t, rfl, ⟨_, SqL.of t13⟩, fun D hD => ?_⟩
    refine lc_same1 walk_list hD (fun i ds => ds = ((ts.take i).map fun x => (x, decide (tl z ∈ wordsOf (tl x)))).map qD) rfl (fun H s => SqL.of (s _ _ t13)) yat_same (by rw [List.length_map]; omega) ?_ ?_
    · rintro j x H3 H4 ds hj s4 s5 rfl ⟨rfl, hx⟩ K1 kk
      obtain ⟨y, hy, rfl⟩ := strs_at2 hx
      have ly := h13 y (List.mem_of_getElem? hy)
      refine ⟨rfl, _, rfl, _, rfl, _, rfl, y, rfl, by have := ly.2; omega, fun q ys hq hys => ?_⟩
      refine ⟨q, ys.map V.str, rfl, .inl (SqL.of upd_same), rfl, by simp [flatV], ?_⟩
      refine ⟨small5 (by simp), fun u hu => ?_⟩
      have sq : Same H4 (upd H4 q (.lst (ys.map V.str))) := Same.new hq
      refine kk _ _ (qD (y, decide (tl z ∈ wordsOf (tl y)))) (Same.put sq (none_back sq hu)) (.tup upd_same (.cons (.str y) (.cons ?_ .nil))) ?_
      · rw [← hys, ← inV_strs]
        exact .bl _
      · rw [List.take_succ, hy]
        simp
    rintro H14 ys ds s14 hl hI rfl
    have L14 : LSt d g s p t ps H0 H14 128 := ⟨k13.same s14, s14 _ _ pl13, ts, s14 _ _ t13, h13, l13⟩
    rw [List.length_map, List.take_length] at hI
    generalize hqs : (ts.map fun x => (x, decide (tl z ∈ wordsOf (tl x)))) = qs at hI
    have oks : ∀ x ∈ qs, ∃ y, SnL 200 y ∧ x = (y, decide (tl z ∈ wordsOf (tl y))) := by
      intro x hx
      rw [← hqs] at hx
      obtain ⟨y, hy, rfl⟩ := List.mem_map.mp hx
      exact ⟨y, h13 y hy, rfl⟩
    have lqs : qs.length ≤ 128 := by rw [← hqs, List.length_map]; exact l13
    have zt : (tl z).length ≤ 1000 := by rw [← len_tl]; omega
    refine ⟨_, rfl, z, rfl, by omega, fun v H15 s15 iv => ?_⟩
    refine ⟨_, rfl, v, D, withWord (tl z), δM _, qs, rfl, iv, good_with zt, good_det (good_with zt), ⟨ys, s15 _ _ hl, hI.mono (TK.same s15)⟩, fun x hx => ?_, fun H16 s16 => ⟨_, rfl, ite2 (fun h => by cases h) (fun _ => ?_)⟩⟩
    · obtain ⟨y, hy, rfl⟩ := oks x hx
      exact ok_w z y (by omega) hy.1 (by have := hy.2; omega)
    dsimp only [tNext]
    have s16' := s15.trans s16
    refine ⟨_, rfl, z, rfl, by omega, fun v2 H17 s17 iv2 => ?_⟩
    have s17' := s16'.trans s17
    have hl17 := s17' _ _ hl
    have hI17 := hI.mono (TK.same s17')
    refine ⟨_, rfl, D, rfl, ⟨_, SqL.of hl17⟩, fun D2 hD2 => ?_⟩
    refine lc_same1 walk_list hD2 (fun i ds => ds = ((qs.take i).map fun x => (x.1, !x.2)).map qD) rfl (fun H s => SqL.of (s _ _ hl17)) yat_same (by rw [hI17.length, List.length_map]; omega) ?_ ?_
    · rintro j x H3 H4 ds hj s4 s5 rfl ⟨rfl, hx⟩ K1 kk
      obtain ⟨q, hq, hIm⟩ := hI17.at_back hx
      obtain ⟨b, rfl, hb⟩ := q_of (hIm.mono (TK.same s4))
      refine ⟨b, _, rfl, SqT.of hb, rfl, _, _, rfl, _, _, rfl, rfl, rfl, ?_⟩
      refine ⟨_, rfl, _, rfl, _, rfl, small5 (by simp), fun u hu => ?_⟩
      refine kk _ _ (qD (q.1, !q.2)) (Same.new hu) (.tup upd_same (.cons (.str _) (.cons (.bl _) .nil))) ?_
      rw [List.take_succ, hq]
      simp
    rintro H18 ys2 ds s18 hl18 hI18 rfl
    have hI18l := hI17.length
    rw [List.length_map] at hI18l
    rw [hI18l, List.take_length] at hI18
    refine ⟨v2, D2, withoutWord (tl z), δM _, _, rfl, iv2.mono (TK.same s18), good_without zt, good_det (good_without zt), ⟨ys2, hl18, hI18⟩, fun x hx => ?_, fun H19 s19 => ⟨_, rfl, ite2 (fun h => by cases h) (fun _ => ?_)⟩⟩
    · obtain ⟨x', hx', rfl⟩ := List.mem_map.mp hx
      obtain ⟨y, hy, rfl⟩ := oks x' hx'
      exact ok_wo z y (by omega) hy.1 (by have := hy.2; omega)
    dsimp only [tNext]
    have sF := (s17'.trans s18).trans s19
    have k19 : Dk d g s H0 H19 := L14.dk.same sF
    have p19 := sF _ _ L14.pl
    clear L14 hl hI s14 hI18 hl18 hI17 hl17 s15 s16 s17 s18 s19 s16' s17' sF iv iv2 k13 pl13 t13 h13 hD hD2
    -- number
    refine ⟨_, rfl, d, g, s, 13, rfl, k19.dr, by decide, by decide, fun r5 H20 r50 r51 k20 => ?_⟩
    have k20' := k19.trans k20
    have p20 := k20.at_ p19 npd npg
    dsimp only [gName]
    refine ⟨fun σ' H' => ∃ n : Nat, n ≤ 120 ∧ σ' = [some (.ref a), some (.ref d), some (.bl wide), some (.str z), some (.ref p), some (.str LET), some (.str (sg c1)), some (.ref t), some (.ref D), some (.int (n : Int)), none, none, none, none, none] ∧ Dk d g s H0 H' ∧ H' p = some (.lst (ps.map V.str)), ?_, ?_⟩
    · refine ⟨_, rfl, _, rfl, ite2 (fun _ => ?_) (fun _ => ?_)⟩
      · refine ⟨_, rfl, d, g, s, 21, rfl, k20'.dr, by decide, by decide, fun r6 H21 r60 r61 k21 => ⟨_, _, rfl, rfl, ?_⟩⟩
        refine ⟨(100 + r6).toNat, by omega, ?_, k20'.trans k21, k21.at_ p20 npd npg⟩
        rw [Int.toNat_of_nonneg (by omega)]
        rfl
      · refine ⟨r5.toNat, by omega, ?_, k20', p20⟩
        rw [Int.toNat_of_nonneg (by omega)]
        rfl
    rintro σ H22 ⟨n, hn, rfl, k22, p22⟩
    refine ⟨Nat.zero_le _, fun q hq => ?_⟩
    have npq : p ≠ q := ne_of_none p22 hq
    have hq0 := k22.none_of hq
    obtain ⟨nqd, nqg, nqs⟩ := k22.dr.ne hq
    refine gen_st (Gd := fun Hx => SzL d g s p q ps H0 Hx n 0) ⟨k22.put dr hq0 (fun xs z => by rw [hq] at z; cases z), (upd_ne npq).trans p22, [], [], upd_same, .nil, by simp, Nat.le_refl _⟩ ?_
    clear hq p22 k22 p20 k20 k20' k19 p19
    rintro H23 L23
    refine ⟨_, rfl, _, _, rfl, rfl, _, rfl, _, rfl, _, _, rfl, rfl, _, rfl, _, _, rfl, rfl, _, rfl, d, g, s, 9, rfl, L23.dk.dr, by decide, by decide, fun r7 H24 r70 r71 k24 => ⟨_, _, rfl, rfl, small5 (by simp), fun e he => ?_⟩⟩
    obtain ⟨k23, p23, xs, as, q23, i23, ok23, l23⟩ := L23
    have q24 := k24.at_ q23 nqd nqg
    have p24 := k24.at_ p23 npd npg
    have nqe : q ≠ e := ne_of_none q24 he
    have npe : p ≠ e := ne_of_none p24 he
    have k24' := k23.trans k24
    have he0 := k24'.none_of he
    have ke : Dk d g s H24 (upd H24 e (.lst [.int ((n : Int) - 1), .int n, .int ((n : Int) + 1), .int ((n : Int) + 2 + r7)])) := Dk.new k24.dr he
    obtain ⟨ned, neg, nes⟩ := k24.dr.ne he
    have hzs : ∀ x ∈ [(n : Int) - 1, (n : Int), (n : Int) + 1, (n : Int) + 2 + r7], x ≤ 131 := by
      simp only [List.mem_cons, List.not_mem_nil, or_false]
      rintro x (rfl | rfl | rfl | rfl) <;> omega
    have e25 : upd H24 e (.lst [.int ((n : Int) - 1), .int n, .int ((n : Int) + 1), .int ((n : Int) + 2 + r7)]) e = some (.lst ([(n : Int) - 1, (n : Int), (n : Int) + 1, (n : Int) + 2 + r7].map V.int)) := upd_same
    refine ⟨e, rfl, ⟨_, SqL.of e25⟩, for_it walk_list (fun i σ Hx => ∃ v11 v12 : Option V, σ = [some (.ref a), some (.ref d), some (.bl wide), some (.str z), some (.ref p), some (.str LET), some (.str (sg c1)), some (.ref t), some (.ref D), some (.int (n : Int)), some (.ref q), v11, v12, none, none] ∧ Hx e = some (.lst ([(n : Int) - 1, (n : Int), (n : Int) + 1, (n : Int) + 2 + r7].map V.int)) ∧ SzL d g s p q ps H0 Hx n (i * 2)) ⟨none, none, rfl, e25, k24'.trans ke, (upd_ne npe).trans p24, xs, as, (upd_ne nqe).trans q24, (i23.mono k24.tk).mono ke.tk, ok23, by omega⟩ (fun i σ H1 _ h => by obtain ⟨_, _, _, h, _⟩ := h; exact SqL.of h) ?_ ?_⟩
    · clear ke k24' q24 p24 k23 p23 q23 i23 ok23 l23 k24 he e25
      rintro i x σ H3 H4 hi ⟨v11, v12, rfl, e3, L3⟩ ⟨rfl, hx⟩
      obtain ⟨w, hw, rfl⟩ := ints_at hx
      have hw2 := hzs w (List.mem_of_getElem? hw)
      have hi4 : i < 4 := hi
      refine ⟨_, rfl, _, _, rfl, rfl, _, rfl, ite2 (fun hb => ?_) (fun hb => ?_)⟩
      · have hw0 : 0 < w := of_decide_eq_true hb
        obtain ⟨m, rfl⟩ : ∃ m : Nat, w = (m : Int) := ⟨w.toNat, by omega⟩
        have hiv : 0 ≤ (if wide = true then (1 : Int) else 0) ∧ (if wide = true then (1 : Int) else 0) ≤ 1 := by split <;> omega
        refine ⟨_, rfl, _, rfl, _, rfl, _, rfl, .inr ⟨wide, rfl, _, _, rfl, rfl, .inl ⟨by decide, by decide⟩, _, _, rfl, rfl, d, g, s, 5 + 20 * (if wide = true then (1 : Int) else 0), rfl, L3.dk.dr, by omega, by omega, fun r8 H5 r80 r81 k5 => ?_⟩⟩
        obtain ⟨k3, p3, xs, as, q3, i3, ok3, l3⟩ := L3
        have p5 := k5.at_ p3 npd npg
        refine ⟨_, rfl, d, g, s, p, ps, r8, (m : Int), rfl, k5.dr, ⟨p5, hps, by omega, by omega⟩, npg, by omega, by omega, by omega, by omega, fun tx H6 sn ln k6 => ?_⟩
        have k56 := k5.trans k6
        have q6 := k56.at_ q3 nqd nqg
        have i6 := i3.mono k56.tk
        have e6 := k56.at_ e3 ned neg
        have p6 := k6.at_ p5 npd npg
        have lx : xs.length < 100 := by
          have := i3.length
          rw [List.length_map] at this
          omega
        refine ⟨_, rfl, .inl ⟨rfl, _, SqL.of q6⟩, _, rfl, _, rfl, tx, m, rfl, by omega, by omega, sn, fun y ly sy => ?_⟩
        refine ⟨_, rfl, _, rfl, _, _, rfl, rfl, small5 (by simp), fun u hu => ?_⟩
        refine ⟨q, xs, _, rfl, rfl, (upd_ne (ne_of_none q6 hu)).trans q6, small5' (by omega), ?_⟩
        have L7 := SzL.push (y := y) (b := decide ((m : Int) ≤ (n : Int))) dr (k3.trans k56) p6 npq hq0 q6 i6 ok3 l3 hu ⟨sy, by show y.length ≤ 1000; omega, by show decide ((m : Int) ≤ (n : Int)) = decide (y.length ≤ n); rw [ly]; simp⟩
        have e7 := keep2 (a := .tup [.str y, .bl (decide ((m : Int) ≤ (n : Int)))]) (b := .lst (xs ++ [.ref u])) e6 hu nqe.symm
        refine gen_st (Gd := fun Hx => Hx e = some (.lst ([(n : Int) - 1, (n : Int), (n : Int) + 1, (n : Int) + 2 + r7].map V.int)) ∧ SzL d g s p q ps H0 Hx n (i * 2 + 1)) ⟨e7, L7⟩ ?_
        clear L7 e7 hu q6 i6 e6 p6 k6 k56 p5 k5 k3 p3 q3 i3 ok3 l3 e3 lx
        rintro H8 ⟨e8, k8, p8, xs, as, q8, i8, ok8, l8⟩
        have lx : xs.length < 100 := by
          have := i8.length
          rw [List.length_map] at this
          omega
        have sx : Sn (Str.ofString "x") := by unfold Sn; decide +kernel
        have lxx : (Str.ofString "x").length = 1 := by decide +kernel
        refine ⟨_, rfl, .inl ⟨rfl, _, SqL.of q8⟩, _, rfl, Str.ofString "x", m, rfl, by omega, by omega, sx, fun y ly sy => ?_⟩
        refine ⟨_, rfl, _, rfl, _, _, rfl, rfl, small5 (by simp), fun u hu => ?_⟩
        refine ⟨q, xs, _, rfl, rfl, (upd_ne (ne_of_none q8 hu)).trans q8, small5' (by omega), ?_⟩
        have L9 := SzL.push (y := y) (b := decide ((m : Int) ≤ (n : Int))) dr k8 p8 npq hq0 q8 i8 ok8 l8 hu ⟨sy, by show y.length ≤ 1000; omega, by show decide ((m : Int) ≤ (n : Int)) = decide (y.length ≤ n); rw [ly]; simp⟩
        have e9 := keep2 (a := .tup [.str y, .bl (decide ((m : Int) ≤ (n : Int)))]) (b := .lst (xs ++ [.ref u])) e8 hu nqe.symm
        refine ⟨_, _, rfl, e9, ?_⟩
        rw [show (i + 1) * 2 = i * 2 + 1 + 1 by omega]
        exact L9
      · obtain ⟨k3, p3, xs, as, q3, i3, ok3, l3⟩ := L3
        exact ⟨_, _, rfl, e3, k3, p3, xs, as, q3, i3, ok3, by omega⟩
    rintro σ H25 ⟨v11, v12, rfl, e25', L25⟩
    clear ke k24' q24 p24 k23 p23 q23 i23 ok23 l23 k24 he e25
    obtain ⟨k8, p8, xs, as, q8, i8, ok8, l8⟩ := L25
    have l8 : as.length ≤ 8 := l8
    have lx : xs.length < 100 := by
      have := i8.length
      rw [List.length_map] at this
      omega
    have sa : Sn (Str.ofString "a") := by unfold Sn; decide +kernel
    have la : (Str.ofString "a").length = 1 := by decide +kernel
    have sb : Sn (Str.ofString "b.c") := by unfold Sn; decide +kernel
    have lb : (Str.ofString "b.c").length = 3 := by decide +kernel
    refine ⟨_, rfl, .inl ⟨rfl, _, SqL.of q8⟩, _, rfl, _, _, rfl, rfl, small5 (by simp), fun u hu => ?_⟩
    refine ⟨q, xs, _, rfl, rfl, (upd_ne (ne_of_none q8 hu)).trans q8, small5' (by omega), ?_⟩
    have L9 := SzL.push (y := Str.ofString "a") (b := decide ((1 : Int) ≤ (n : Int))) dr k8 p8 npq hq0 q8 i8 ok8 l8 hu ⟨sa, by show (Str.ofString "a").length ≤ 1000; omega, by show decide ((1 : Int) ≤ (n : Int)) = decide ((Str.ofString "a").length ≤ n); rw [la]; simp; omega⟩
    refine gen_st (Gd := fun Hx => SzL d g s p q ps H0 Hx n 9) L9 ?_
    clear L9 hu q8 i8 ok8 l8 k8 p8 lx
    rintro H26 ⟨k8, p8, xs, as, q8, i8, ok8, l8⟩
    have lx : xs.length < 100 := by
      have := i8.length
      rw [List.length_map] at this
      omega
    refine ⟨_, rfl, .inl ⟨rfl, _, SqL.of q8⟩, _, rfl, _, _, rfl, rfl, small5 (by simp), fun u hu => ?_⟩
    refine ⟨q, xs, _, rfl, rfl, (upd_ne (ne_of_none q8 hu)).trans q8, small5' (by omega), ?_⟩
    have L9 := SzL.push (y := Str.ofString "b.c") (b := decide ((3 : Int) ≤ (n : Int))) dr k8 p8 npq hq0 q8 i8 ok8 l8 hu ⟨sb, by show (Str.ofString "b.c").length ≤ 1000; omega, by show decide ((3 : Int) ≤ (n : Int)) = decide ((Str.ofString "b.c").length ≤ n); rw [lb]; simp; omega⟩
    refine gen_st (Gd := fun Hx => SzL d g s p q ps H0 Hx n 10) L9 ?_
    clear L9 hu q8 i8 ok8 l8 k8 p8 lx
    rintro H27 ⟨k8, p8, xs, as, q8, i8, ok8, l8⟩
    refine ⟨_, rfl, n, rfl, by omega, fun v3 H28 s28 iv3 => ?_⟩
    refine ⟨_, rfl, v3, q, uptoSigns n, δM _, as, rfl, iv3, good_upto (by omega), good_det (good_upto (by omega)), ⟨xs, s28 _ _ q8, i8.mono (TK.same s28)⟩, fun x hx => ?_, fun H29 _ => k H29⟩
    obtain ⟨tx, due⟩ := x
    obtain ⟨o1, o2, o3⟩ := ok8 _ hx
    have o3 : due = decide (tx.length ≤ n) := o3
    subst o3
    exact ok_u n tx o1 (by have o2 : tx.length ≤ 1000 := o2; omega)
end
end N1
set_option Elab.async false
set_option linter.all false
set_option maxRecDepth 100000
namespace N1
open PySem PySem.Spec PyProof.Rows L2 TL
section
variable {K : PySem.W.Frag}
/-- a def at f -/
structure Dh (K : PySem.W.Frag) (x : Str) (st : Stmt) (f : Addr) (ps : List Str) : Prop where
  a : PySem.W.nsIn K mainGlobals x = some (some (.ref f))
  k : PySem.W.keepIn K (.ref f) = true
  fn : ∃ fd : FuncData, Fun K x x st f fd ∧ Binds K fd ps []
theorem Dh.df {P : Program} {w : World} {mg : Str → Option Value} {base h : Heap} {x : Str} {st : Stmt} {f : Addr} {ps : List Str} {n : Nat} {sp : Sp} (X : K.In h) (G : h.Ns mainGlobals mg) (H : Dh K x st f ps)
    (ok : ∀ fd : FuncData, Fun K x x st f fd → FnOk P w K mg base CX0 n f fd ps sp) : Df P w K mg base n x ps sp := by
  obtain ⟨fd, F, B⟩ := H.fn
  exact ⟨f, fd, ok fd F, PySem.W.mg_of X G H.a, H.k, B⟩
theorem dh_sign_moves {f : Addr} {od an : Option Addr} {sl : Array (Option Value)} {oc kV dc pm cd ct : Value} (a : PySem.W.nsIn K mainGlobals "sign_moves" = some (some (.ref f)))
    (l : K.lookup f = some ⟨oc, od, .func (PySem.W.fnOf "sign_moves" "sign_moves" (defArgs s_sign_moves) (defBody s_sign_moves) (defScope s_sign_moves) .none kV dc pm an cd ct), sl⟩) (c : PySem.W.codeIn K cd "sign_moves" = true) (k : PySem.W.keepIn K (.ref f) = true) : Dh K "sign_moves" s_sign_moves f ["origin", "to", "price"] :=
  ⟨a, k, _, fun_mk (st := s_sign_moves) l c k, (fun_mk (st := s_sign_moves) l c k).binds (ps := ["origin", "to", "price"]) fun _ _ _ _ _ _ us hl => match us, hl with | [_, _, _], _ => rfl⟩
theorem dh_with_word {f : Addr} {od an : Option Addr} {sl : Array (Option Value)} {oc kV dc pm cd ct : Value} (a : PySem.W.nsIn K mainGlobals "with_word" = some (some (.ref f)))
    (l : K.lookup f = some ⟨oc, od, .func (PySem.W.fnOf "with_word" "with_word" (defArgs s_with_word) (defBody s_with_word) (defScope s_with_word) .none kV dc pm an cd ct), sl⟩) (c : PySem.W.codeIn K cd "with_word" = true) (k : PySem.W.keepIn K (.ref f) = true) : Dh K "with_word" s_with_word f ["word"] :=
  ⟨a, k, _, fun_mk (st := s_with_word) l c k, (fun_mk (st := s_with_word) l c k).binds (ps := ["word"]) fun _ _ _ _ _ _ us hl => match us, hl with | [_], _ => rfl⟩
theorem dh_without_word {f : Addr} {od an : Option Addr} {sl : Array (Option Value)} {oc kV dc pm cd ct : Value} (a : PySem.W.nsIn K mainGlobals "without_word" = some (some (.ref f)))
    (l : K.lookup f = some ⟨oc, od, .func (PySem.W.fnOf "without_word" "without_word" (defArgs s_without_word) (defBody s_without_word) (defScope s_without_word) .none kV dc pm an cd ct), sl⟩) (c : PySem.W.codeIn K cd "without_word" = true) (k : PySem.W.keepIn K (.ref f) = true) : Dh K "without_word" s_without_word f ["word"] :=
  ⟨a, k, _, fun_mk (st := s_without_word) l c k, (fun_mk (st := s_without_word) l c k).binds (ps := ["word"]) fun _ _ _ _ _ _ us hl => match us, hl with | [_], _ => rfl⟩
theorem dh_word_moves {f : Addr} {od an : Option Addr} {sl : Array (Option Value)} {oc kV dc pm cd ct : Value} (a : PySem.W.nsIn K mainGlobals "word_moves" = some (some (.ref f)))
    (l : K.lookup f = some ⟨oc, od, .func (PySem.W.fnOf "word_moves" "word_moves" (defArgs s_word_moves) (defBody s_word_moves) (defScope s_word_moves) .none kV dc pm an cd ct), sl⟩) (c : PySem.W.codeIn K cd "word_moves" = true) (k : PySem.W.keepIn K (.ref f) = true) : Dh K "word_moves" s_word_moves f ["word", "found"] :=
  ⟨a, k, _, fun_mk (st := s_word_moves) l c k, (fun_mk (st := s_word_moves) l c k).binds (ps := ["word", "found"]) fun _ _ _ _ _ _ us hl => match us, hl with | [_, _], _ => rfl⟩
theorem dh_upto_signs {f : Addr} {od an : Option Addr} {sl : Array (Option Value)} {oc kV dc pm cd ct : Value} (a : PySem.W.nsIn K mainGlobals "upto_signs" = some (some (.ref f)))
    (l : K.lookup f = some ⟨oc, od, .func (PySem.W.fnOf "upto_signs" "upto_signs" (defArgs s_upto_signs) (defBody s_upto_signs) (defScope s_upto_signs) .none kV dc pm an cd ct), sl⟩) (c : PySem.W.codeIn K cd "upto_signs" = true) (k : PySem.W.keepIn K (.ref f) = true) : Dh K "upto_signs" s_upto_signs f ["number"] :=
  ⟨a, k, _, fun_mk (st := s_upto_signs) l c k, (fun_mk (st := s_upto_signs) l c k).binds (ps := ["number"]) fun _ _ _ _ _ _ us hl => match us, hl with | [_], _ => rfl⟩
theorem dh_law_begin {f : Addr} {od an : Option Addr} {sl : Array (Option Value)} {oc kV dc pm cd ct : Value} (a : PySem.W.nsIn K mainGlobals "_law_begin" = some (some (.ref f)))
    (l : K.lookup f = some ⟨oc, od, .func (PySem.W.fnOf "_law_begin" "_law_begin" (defArgs s_law_begin) (defBody s_law_begin) (defScope s_law_begin) .none kV dc pm an cd ct), sl⟩) (c : PySem.W.codeIn K cd "_law_begin" = true) (k : PySem.W.keepIn K (.ref f) = true) : Dh K "_law_begin" s_law_begin f ["script"] :=
  ⟨a, k, _, fun_mk (st := s_law_begin) l c k, (fun_mk (st := s_law_begin) l c k).binds (ps := ["script"]) fun _ _ _ _ _ _ us hl => match us, hl with | [_], _ => rfl⟩
theorem dh_law_pick {f : Addr} {od an : Option Addr} {sl : Array (Option Value)} {oc kV dc pm cd ct : Value} (a : PySem.W.nsIn K mainGlobals "_law_pick" = some (some (.ref f)))
    (l : K.lookup f = some ⟨oc, od, .func (PySem.W.fnOf "_law_pick" "_law_pick" (defArgs s_law_pick) (defBody s_law_pick) (defScope s_law_pick) .none kV dc pm an cd ct), sl⟩) (c : PySem.W.codeIn K cd "_law_pick" = true) (k : PySem.W.keepIn K (.ref f) = true) : Dh K "_law_pick" s_law_pick f ["draws", "many"] :=
  ⟨a, k, _, fun_mk (st := s_law_pick) l c k, (fun_mk (st := s_law_pick) l c k).binds (ps := ["draws", "many"]) fun _ _ _ _ _ _ us hl => match us, hl with | [_, _], _ => rfl⟩
theorem dh_law_letters {f : Addr} {od an : Option Addr} {sl : Array (Option Value)} {oc kV dc pm cd ct : Value} (a : PySem.W.nsIn K mainGlobals "_law_letters" = some (some (.ref f)))
    (l : K.lookup f = some ⟨oc, od, .func (PySem.W.fnOf "_law_letters" "_law_letters" (defArgs s_law_letters) (defBody s_law_letters) (defScope s_law_letters) .none kV dc pm an cd ct), sl⟩) (c : PySem.W.codeIn K cd "_law_letters" = true) (k : PySem.W.keepIn K (.ref f) = true) : Dh K "_law_letters" s_law_letters f [] :=
  ⟨a, k, _, fun_mk (st := s_law_letters) l c k, (fun_mk (st := s_law_letters) l c k).binds (ps := []) fun _ _ _ _ _ _ us hl => match us, hl with | [], _ => rfl⟩
theorem dh_law_word {f : Addr} {od an : Option Addr} {sl : Array (Option Value)} {oc kV dc pm cd ct : Value} (a : PySem.W.nsIn K mainGlobals "_law_word" = some (some (.ref f)))
    (l : K.lookup f = some ⟨oc, od, .func (PySem.W.fnOf "_law_word" "_law_word" (defArgs s_law_word) (defBody s_law_word) (defScope s_law_word) .none kV dc pm an cd ct), sl⟩) (c : PySem.W.codeIn K cd "_law_word" = true) (k : PySem.W.keepIn K (.ref f) = true) : Dh K "_law_word" s_law_word f ["draws", "most", "few"] :=
  ⟨a, k, _, fun_mk (st := s_law_word) l c k, (fun_mk (st := s_law_word) l c k).binds (ps := ["draws", "most", "few"]) fun _ _ _ _ _ _ us hl => match us, hl with | [_, _, _], _ => rfl⟩
theorem dh_law_pool {f : Addr} {od an : Option Addr} {sl : Array (Option Value)} {oc kV dc pm cd ct : Value} (a : PySem.W.nsIn K mainGlobals "_law_pool" = some (some (.ref f)))
    (l : K.lookup f = some ⟨oc, od, .func (PySem.W.fnOf "_law_pool" "_law_pool" (defArgs s_law_pool) (defBody s_law_pool) (defScope s_law_pool) .none kV dc pm an cd ct), sl⟩) (c : PySem.W.codeIn K cd "_law_pool" = true) (k : PySem.W.keepIn K (.ref f) = true) : Dh K "_law_pool" s_law_pool f ["draws", "word"] :=
  ⟨a, k, _, fun_mk (st := s_law_pool) l c k, (fun_mk (st := s_law_pool) l c k).binds (ps := ["draws", "word"]) fun _ _ _ _ _ _ us hl => match us, hl with | [_, _], _ => rfl⟩
theorem dh_law_expression {f : Addr} {od an : Option Addr} {sl : Array (Option Value)} {oc kV dc pm cd ct : Value} (a : PySem.W.nsIn K mainGlobals "_law_expression" = some (some (.ref f)))
    (l : K.lookup f = some ⟨oc, od, .func (PySem.W.fnOf "_law_expression" "_law_expression" (defArgs s_law_expression) (defBody s_law_expression) (defScope s_law_expression) .none kV dc pm an cd ct), sl⟩) (c : PySem.W.codeIn K cd "_law_expression" = true) (k : PySem.W.keepIn K (.ref f) = true) : Dh K "_law_expression" s_law_expression f ["draws", "pool", "steps", "most"] :=
  ⟨a, k, _, fun_mk (st := s_law_expression) l c k, (fun_mk (st := s_law_expression) l c k).binds (ps := ["draws", "pool", "steps", "most"]) fun _ _ _ _ _ _ us hl => match us, hl with | [_, _, _, _], _ => rfl⟩
theorem dh_law_all_small {f : Addr} {od an : Option Addr} {sl : Array (Option Value)} {oc kV dc pm cd ct : Value} (a : PySem.W.nsIn K mainGlobals "_law_all_small" = some (some (.ref f)))
    (l : K.lookup f = some ⟨oc, od, .func (PySem.W.fnOf "_law_all_small" "_law_all_small" (defArgs s_law_all_small) (defBody s_law_all_small) (defScope s_law_all_small) .none kV dc pm an cd ct), sl⟩) (c : PySem.W.codeIn K cd "_law_all_small" = true) (k : PySem.W.keepIn K (.ref f) = true) : Dh K "_law_all_small" s_law_all_small f ["one", "other"] :=
  ⟨a, k, _, fun_mk (st := s_law_all_small) l c k, (fun_mk (st := s_law_all_small) l c k).binds (ps := ["one", "other"]) fun _ _ _ _ _ _ us hl => match us, hl with | [_, _], _ => rfl⟩
theorem dh_law_is_number {f : Addr} {od an : Option Addr} {sl : Array (Option Value)} {oc kV dc pm cd ct : Value} (a : PySem.W.nsIn K mainGlobals "_law_is_number" = some (some (.ref f)))
    (l : K.lookup f = some ⟨oc, od, .func (PySem.W.fnOf "_law_is_number" "_law_is_number" (defArgs s_law_is_number) (defBody s_law_is_number) (defScope s_law_is_number) .none kV dc pm an cd ct), sl⟩) (c : PySem.W.codeIn K cd "_law_is_number" = true) (k : PySem.W.keepIn K (.ref f) = true) : Dh K "_law_is_number" s_law_is_number f ["thing"] :=
  ⟨a, k, _, fun_mk (st := s_law_is_number) l c k, (fun_mk (st := s_law_is_number) l c k).binds (ps := ["thing"]) fun _ _ _ _ _ _ us hl => match us, hl with | [_], _ => rfl⟩
theorem dh_law_ascending {f : Addr} {od an : Option Addr} {sl : Array (Option Value)} {oc kV dc pm cd ct : Value} (a : PySem.W.nsIn K mainGlobals "_law_ascending" = some (some (.ref f)))
    (l : K.lookup f = some ⟨oc, od, .func (PySem.W.fnOf "_law_ascending" "_law_ascending" (defArgs s_law_ascending) (defBody s_law_ascending) (defScope s_law_ascending) .none kV dc pm an cd ct), sl⟩) (c : PySem.W.codeIn K cd "_law_ascending" = true) (k : PySem.W.keepIn K (.ref f) = true) : Dh K "_law_ascending" s_law_ascending f ["thing", "many"] :=
  ⟨a, k, _, fun_mk (st := s_law_ascending) l c k, (fun_mk (st := s_law_ascending) l c k).binds (ps := ["thing", "many"]) fun _ _ _ _ _ _ us hl => match us, hl with | [_, _], _ => rfl⟩
theorem dh_law_form {f : Addr} {od an : Option Addr} {sl : Array (Option Value)} {oc kV dc pm cd ct : Value} (a : PySem.W.nsIn K mainGlobals "_law_form" = some (some (.ref f)))
    (l : K.lookup f = some ⟨oc, od, .func (PySem.W.fnOf "_law_form" "_law_form" (defArgs s_law_form) (defBody s_law_form) (defScope s_law_form) .none kV dc pm an cd ct), sl⟩) (c : PySem.W.codeIn K cd "_law_form" = true) (k : PySem.W.keepIn K (.ref f) = true) : Dh K "_law_form" s_law_form f ["machine"] :=
  ⟨a, k, _, fun_mk (st := s_law_form) l c k, (fun_mk (st := s_law_form) l c k).binds (ps := ["machine"]) fun _ _ _ _ _ _ us hl => match us, hl with | [_], _ => rfl⟩
theorem dh_law_no_round {f : Addr} {od an : Option Addr} {sl : Array (Option Value)} {oc kV dc pm cd ct : Value} (a : PySem.W.nsIn K mainGlobals "_law_no_round" = some (some (.ref f)))
    (l : K.lookup f = some ⟨oc, od, .func (PySem.W.fnOf "_law_no_round" "_law_no_round" (defArgs s_law_no_round) (defBody s_law_no_round) (defScope s_law_no_round) .none kV dc pm an cd ct), sl⟩) (c : PySem.W.codeIn K cd "_law_no_round" = true) (k : PySem.W.keepIn K (.ref f) = true) : Dh K "_law_no_round" s_law_no_round f ["machine"] :=
  ⟨a, k, _, fun_mk (st := s_law_no_round) l c k, (fun_mk (st := s_law_no_round) l c k).binds (ps := ["machine"]) fun _ _ _ _ _ _ us hl => match us, hl with | [_], _ => rfl⟩
theorem dh_law_table {f : Addr} {od an : Option Addr} {sl : Array (Option Value)} {oc kV dc pm cd ct : Value} (a : PySem.W.nsIn K mainGlobals "_law_table" = some (some (.ref f)))
    (l : K.lookup f = some ⟨oc, od, .func (PySem.W.fnOf "_law_table" "_law_table" (defArgs s_law_table) (defBody s_law_table) (defScope s_law_table) .none kV dc pm an cd ct), sl⟩) (c : PySem.W.codeIn K cd "_law_table" = true) (k : PySem.W.keepIn K (.ref f) = true) : Dh K "_law_table" s_law_table f ["machine"] :=
  ⟨a, k, _, fun_mk (st := s_law_table) l c k, (fun_mk (st := s_law_table) l c k).binds (ps := ["machine"]) fun _ _ _ _ _ _ us hl => match us, hl with | [_], _ => rfl⟩
theorem dh_law_skips {f : Addr} {od an : Option Addr} {sl : Array (Option Value)} {oc kV dc pm cd ct : Value} (a : PySem.W.nsIn K mainGlobals "_law_skips" = some (some (.ref f)))
    (l : K.lookup f = some ⟨oc, od, .func (PySem.W.fnOf "_law_skips" "_law_skips" (defArgs s_law_skips) (defBody s_law_skips) (defScope s_law_skips) .none kV dc pm an cd ct), sl⟩) (c : PySem.W.codeIn K cd "_law_skips" = true) (k : PySem.W.keepIn K (.ref f) = true) : Dh K "_law_skips" s_law_skips f ["table", "best", "many"] :=
  ⟨a, k, _, fun_mk (st := s_law_skips) l c k, (fun_mk (st := s_law_skips) l c k).binds (ps := ["table", "best", "many"]) fun _ _ _ _ _ _ us hl => match us, hl with | [_, _, _], _ => rfl⟩
theorem dh_law_price {f : Addr} {od an : Option Addr} {sl : Array (Option Value)} {oc kV dc pm cd ct : Value} (a : PySem.W.nsIn K mainGlobals "_law_price" = some (some (.ref f)))
    (l : K.lookup f = some ⟨oc, od, .func (PySem.W.fnOf "_law_price" "_law_price" (defArgs s_law_price) (defBody s_law_price) (defScope s_law_price) .none kV dc pm an cd ct), sl⟩) (c : PySem.W.codeIn K cd "_law_price" = true) (k : PySem.W.keepIn K (.ref f) = true) : Dh K "_law_price" s_law_price f ["machine", "table", "text"] :=
  ⟨a, k, _, fun_mk (st := s_law_price) l c k, (fun_mk (st := s_law_price) l c k).binds (ps := ["machine", "table", "text"]) fun _ _ _ _ _ _ us hl => match us, hl with | [_, _, _], _ => rfl⟩
theorem dh_law_words {f : Addr} {od an : Option Addr} {sl : Array (Option Value)} {oc kV dc pm cd ct : Value} (a : PySem.W.nsIn K mainGlobals "_law_words" = some (some (.ref f)))
    (l : K.lookup f = some ⟨oc, od, .func (PySem.W.fnOf "_law_words" "_law_words" (defArgs s_law_words) (defBody s_law_words) (defScope s_law_words) .none kV dc pm an cd ct), sl⟩) (c : PySem.W.codeIn K cd "_law_words" = true) (k : PySem.W.keepIn K (.ref f) = true) : Dh K "_law_words" s_law_words f ["text"] :=
  ⟨a, k, _, fun_mk (st := s_law_words) l c k, (fun_mk (st := s_law_words) l c k).binds (ps := ["text"]) fun _ _ _ _ _ _ us hl => match us, hl with | [_], _ => rfl⟩
theorem dh_law_takes {f : Addr} {od an : Option Addr} {sl : Array (Option Value)} {oc kV dc pm cd ct : Value} (a : PySem.W.nsIn K mainGlobals "_law_takes" = some (some (.ref f)))
    (l : K.lookup f = some ⟨oc, od, .func (PySem.W.fnOf "_law_takes" "_law_takes" (defArgs s_law_takes) (defBody s_law_takes) (defScope s_law_takes) .none kV dc pm an cd ct), sl⟩) (c : PySem.W.codeIn K cd "_law_takes" = true) (k : PySem.W.keepIn K (.ref f) = true) : Dh K "_law_takes" s_law_takes f ["machine", "asked"] :=
  ⟨a, k, _, fun_mk (st := s_law_takes) l c k, (fun_mk (st := s_law_takes) l c k).binds (ps := ["machine", "asked"]) fun _ _ _ _ _ _ us hl => match us, hl with | [_, _], _ => rfl⟩
theorem dh_law_sized {f : Addr} {od an : Option Addr} {sl : Array (Option Value)} {oc kV dc pm cd ct : Value} (a : PySem.W.nsIn K mainGlobals "_law_sized" = some (some (.ref f)))
    (l : K.lookup f = some ⟨oc, od, .func (PySem.W.fnOf "_law_sized" "_law_sized" (defArgs s_law_sized) (defBody s_law_sized) (defScope s_law_sized) .none kV dc pm an cd ct), sl⟩) (c : PySem.W.codeIn K cd "_law_sized" = true) (k : PySem.W.keepIn K (.ref f) = true) : Dh K "_law_sized" s_law_sized f ["text", "size"] :=
  ⟨a, k, _, fun_mk (st := s_law_sized) l c k, (fun_mk (st := s_law_sized) l c k).binds (ps := ["text", "size"]) fun _ _ _ _ _ _ us hl => match us, hl with | [_, _], _ => rfl⟩
end
theorem all_mk {l : PySem.W.OpenLaw} {w : World} {K : PySem.W.Frag} {h : Heap} {mg : Str → Option Value} {fa fl f0 f1 f2 f3 f4 f5 f6 f7 f8 f9 f10 f11 f12 f13 f14 f15 f16 f17 f18 f19 f20 f21 : Addr} (X : K.In h) (G : h.Ns mainGlobals mg) (hfa : mg "law" = some (.ref fa))
    {od an : Option Addr} {sl : Array (Option Value)} {oc kV dc pm cd ct : Value} {tk0 tk1 tk2 : Tok}
    (h0 : Dh K "sign_moves" s_sign_moves f0 ["origin", "to", "price"])
    (h1 : Dh K "with_word" s_with_word f1 ["word"])
    (h2 : Dh K "without_word" s_without_word f2 ["word"])
    (h3 : Dh K "word_moves" s_word_moves f3 ["word", "found"])
    (h4 : Dh K "upto_signs" s_upto_signs f4 ["number"])
    (h5 : Dh K "_law_begin" s_law_begin f5 ["script"])
    (h6 : Dh K "_law_pick" s_law_pick f6 ["draws", "many"])
    (h7 : Dh K "_law_letters" s_law_letters f7 [])
    (h8 : Dh K "_law_word" s_law_word f8 ["draws", "most", "few"])
    (h9 : Dh K "_law_pool" s_law_pool f9 ["draws", "word"])
    (h10 : Dh K "_law_expression" s_law_expression f10 ["draws", "pool", "steps", "most"])
    (h11 : Dh K "_law_all_small" s_law_all_small f11 ["one", "other"])
    (h12 : Dh K "_law_is_number" s_law_is_number f12 ["thing"])
    (h13 : Dh K "_law_ascending" s_law_ascending f13 ["thing", "many"])
    (h14 : Dh K "_law_form" s_law_form f14 ["machine"])
    (h15 : Dh K "_law_no_round" s_law_no_round f15 ["machine"])
    (h16 : Dh K "_law_table" s_law_table f16 ["machine"])
    (h17 : Dh K "_law_skips" s_law_skips f17 ["table", "best", "many"])
    (h18 : Dh K "_law_price" s_law_price f18 ["machine", "table", "text"])
    (h19 : Dh K "_law_words" s_law_words f19 ["text"])
    (h20 : Dh K "_law_takes" s_law_takes f20 ["machine", "asked"])
    (h21 : Dh K "_law_sized" s_law_sized f21 ["text", "size"])
    (la : PySem.W.nsIn K mainGlobals "law" = some (some (.ref fl))) (ll : K.lookup fl = some ⟨oc, od, .func (PySem.W.fnOf "law" "law" (defArgs s_law) (defBody s_law) (defScope s_law) .none kV dc pm an cd ct), sl⟩) (lc : PySem.W.codeIn K cd "law" = true) (lk : PySem.W.keepIn K (.ref fl) = true)
    (gc0 : PySem.W.nsIn K mainGlobals "LETTERS" = some (some (.str LETTERS tk0)))
    (gc1 : PySem.W.nsIn K mainGlobals "FIGURES" = some (some (.str FIGURES tk1)))
    (gc2 : PySem.W.nsIn K mainGlobals "SIGNS" = some (some (.str SIGNS tk2)))
    (z0 : PySem.W.nsIn K mainGlobals "abs" = some none) (z1 : PySem.W.nsIn K mainGlobals "bool" = some none) (z2 : PySem.W.nsIn K mainGlobals "int" = some none) (z3 : PySem.W.nsIn K mainGlobals "isinstance" = some none) (z4 : PySem.W.nsIn K mainGlobals "len" = some none) (z5 : PySem.W.nsIn K mainGlobals "max" = some none) (z6 : PySem.W.nsIn K mainGlobals "range" = some none) (z7 : PySem.W.nsIn K mainGlobals "sorted" = some none) (z8 : PySem.W.nsIn K mainGlobals "str" = some none) (z9 : PySem.W.nsIn K mainGlobals "tuple" = some none) :
    ∃ fd : FuncData, (∀ (s : Shared) (v : Value), BindsTo s fd ⟨[v], []⟩ [("script", v)]) ∧ ∀ base : Heap, K.In base → base.Ns mainGlobals mg → FnOk l.prog w K mg base CX0 5 fa fd ["script"] (sp_law K) := by
  have e := hfa.symm.trans (PySem.W.mg_of X G la)
  cases e
  have T : Txt mg := ⟨⟨_, PySem.W.mg_of X G gc0⟩, ⟨_, PySem.W.mg_of X G gc1⟩, ⟨_, PySem.W.mg_of X G gc2⟩, PySem.W.mg_none_of X G z0, PySem.W.mg_none_of X G z1, PySem.W.mg_none_of X G z2, PySem.W.mg_none_of X G z3, PySem.W.mg_none_of X G z4, PySem.W.mg_none_of X G z5, PySem.W.mg_none_of X G z6, PySem.W.mg_none_of X G z7, PySem.W.mg_none_of X G z8, PySem.W.mg_none_of X G z9⟩
  refine ⟨PySem.W.fnOf "law" "law" (defArgs s_law) (defBody s_law) (defScope s_law) .none kV dc pm an cd ct, fun s v => .of_eq rfl, fun base _ _ => ?_⟩
  have D0 : Df l.prog w K mg base 1 "sign_moves" ["origin", "to", "price"] sp_sign_moves := h0.df X G fun fd F => ok_sign_moves F T
  have D3 : Df l.prog w K mg base 1 "word_moves" ["word", "found"] sp_word_moves := h3.df X G fun fd F => ok_word_moves F T
  have D5 : Df l.prog w K mg base 1 "_law_begin" ["script"] (sp_begin K) := h5.df X G fun fd F => ok_law_begin F T
  have D6 : Df l.prog w K mg base 1 "_law_pick" ["draws", "many"] sp_pick := h6.df X G fun fd F => ok_law_pick F T
  have D7 : Df l.prog w K mg base 1 "_law_letters" [] sp_letters := h7.df X G fun fd F => ok_law_letters F
  have D11 : Df l.prog w K mg base 1 "_law_all_small" ["one", "other"] sp_small := h11.df X G fun fd F => ok_law_all_small F T
  have D12 : Df l.prog w K mg base 1 "_law_is_number" ["thing"] sp_num := h12.df X G fun fd F => ok_law_is_number F T
  have D15 : Df l.prog w K mg base 1 "_law_no_round" ["machine"] sp_nr := h15.df X G fun fd F => ok_law_no_round F T
  have D16 : Df l.prog w K mg base 1 "_law_table" ["machine"] sp_table := h16.df X G fun fd F => ok_law_table F T
  have D17 : Df l.prog w K mg base 1 "_law_skips" ["table", "best", "many"] sp_skips := h17.df X G fun fd F => ok_law_skips F T
  have D19 : Df l.prog w K mg base 1 "_law_words" ["text"] sp_words := h19.df X G fun fd F => ok_law_words F T
  have D21 : Df l.prog w K mg base 1 "_law_sized" ["text", "size"] sp_sized := h21.df X G fun fd F => ok_law_sized F T
  have D1 : Df l.prog w K mg base 2 "with_word" ["word"] (spWord withWord) := h1.df X G fun fd F => ok_with_word F T D3 D0
  have D2 : Df l.prog w K mg base 2 "without_word" ["word"] (spWord withoutWord) := h2.df X G fun fd F => ok_without_word F T D3
  have D4 : Df l.prog w K mg base 2 "upto_signs" ["number"] sp_upto := h4.df X G fun fd F => ok_upto_signs F T D0
  have D8 : Df l.prog w K mg base 2 "_law_word" ["draws", "most", "few"] sp_word := h8.df X G fun fd F => ok_law_word F T D7 D6
  have D10 : Df l.prog w K mg base 2 "_law_expression" ["draws", "pool", "steps", "most"] sp_expr := h10.df X G fun fd F => ok_law_expression F T D6
  have D13 : Df l.prog w K mg base 2 "_law_ascending" ["thing", "many"] sp_asc := h13.df X G fun fd F => ok_law_ascending F T D12
  have D18 : Df l.prog w K mg base 2 "_law_price" ["machine", "table", "text"] sp_price := h18.df X G fun fd F => ok_law_price F T D17
  have D9 : Df l.prog w K mg base 3 "_law_pool" ["draws", "word"] sp_pool := h9.df X G fun fd F => ok_law_pool F T D7 D6 D8
  have D14 : Df l.prog w K mg base 3 "_law_form" ["machine"] sp_form := h14.df X G fun fd F => ok_law_form F T D12 D13 D7 D15
  have D20 : Df l.prog w K mg base 4 "_law_takes" ["machine", "asked"] sp_takes := h20.df X G fun fd F => ok_law_takes F T D14 D16 D18
  exact ok_law (fun_mk (st := s_law) ll lc lk) T D5 D6 D8 D9 D7 D10 D11 D19 D20 D1 D2 D21 D4
end N1
open PySem PySem.W PyProof.Rows
set_option maxRecDepth 100000 in
set_option maxHeartbeats 0 in
theorem PySem.Challenge.cw_wellbegun_k29_word_machines_holds : PySem.Challenge.rw_wellbegun_k29_word_machines.Holds := by
  w_on; o_law; k_head; (case hw => w_witness2)
  k_fill
  refine L2.walk_of (l := PySem.Challenge.rw_wellbegun_k29_word_machines) (n := 63) (k := 5) (x := "script") (CX := fun _ => L2.CX0) (sp := fun w => N1.sp_law _) rfl (by decide) rfl ⟨rfl, by decide, by decide⟩ (fun w h Y => PySem.W.kIn_of Y) ?F (fun _ _ a ns hl _ hS => ⟨a, ns, rfl, hS, hl, fun _ => rfl⟩) (fun _ _ _ _ _ h => h)
  case F =>
    intro w mg fa h KX G hmg
    refine' N1.all_mk KX G hmg ?h0 ?h1 ?h2 ?h3 ?h4 ?h5 ?h6 ?h7 ?h8 ?h9 ?h10 ?h11 ?h12 ?h13 ?h14 ?h15 ?h16 ?h17 ?h18 ?h19 ?h20 ?h21 ?la ?ll ?lc ?lk ?gc0 ?gc1 ?gc2 ?z0 ?z1 ?z2 ?z3 ?z4 ?z5 ?z6 ?z7 ?z8 ?z9
    (case h0 => refine' N1.dh_sign_moves ?a ?l ?c ?k; (case a => k_is); (case l => k_is); (case c => k_is); (case k => k_is))
    (case h1 => refine' N1.dh_with_word ?a ?l ?c ?k; (case a => k_is); (case l => k_is); (case c => k_is); (case k => k_is))
    (case h2 => refine' N1.dh_without_word ?a ?l ?c ?k; (case a => k_is); (case l => k_is); (case c => k_is); (case k => k_is))
    (case h3 => refine' N1.dh_word_moves ?a ?l ?c ?k; (case a => k_is); (case l => k_is); (case c => k_is); (case k => k_is))
    (case h4 => refine' N1.dh_upto_signs ?a ?l ?c ?k; (case a => k_is); (case l => k_is); (case c => k_is); (case k => k_is))
    (case h5 => refine' N1.dh_law_begin ?a ?l ?c ?k; (case a => k_is); (case l => k_is); (case c => k_is); (case k => k_is))
    (case h6 => refine' N1.dh_law_pick ?a ?l ?c ?k; (case a => k_is); (case l => k_is); (case c => k_is); (case k => k_is))
    (case h7 => refine' N1.dh_law_letters ?a ?l ?c ?k; (case a => k_is); (case l => k_is); (case c => k_is); (case k => k_is))
    (case h8 => refine' N1.dh_law_word ?a ?l ?c ?k; (case a => k_is); (case l => k_is); (case c => k_is); (case k => k_is))
    (case h9 => refine' N1.dh_law_pool ?a ?l ?c ?k; (case a => k_is); (case l => k_is); (case c => k_is); (case k => k_is))
    (case h10 => refine' N1.dh_law_expression ?a ?l ?c ?k; (case a => k_is); (case l => k_is); (case c => k_is); (case k => k_is))
    (case h11 => refine' N1.dh_law_all_small ?a ?l ?c ?k; (case a => k_is); (case l => k_is); (case c => k_is); (case k => k_is))
    (case h12 => refine' N1.dh_law_is_number ?a ?l ?c ?k; (case a => k_is); (case l => k_is); (case c => k_is); (case k => k_is))
    (case h13 => refine' N1.dh_law_ascending ?a ?l ?c ?k; (case a => k_is); (case l => k_is); (case c => k_is); (case k => k_is))
    (case h14 => refine' N1.dh_law_form ?a ?l ?c ?k; (case a => k_is); (case l => k_is); (case c => k_is); (case k => k_is))
    (case h15 => refine' N1.dh_law_no_round ?a ?l ?c ?k; (case a => k_is); (case l => k_is); (case c => k_is); (case k => k_is))
    (case h16 => refine' N1.dh_law_table ?a ?l ?c ?k; (case a => k_is); (case l => k_is); (case c => k_is); (case k => k_is))
    (case h17 => refine' N1.dh_law_skips ?a ?l ?c ?k; (case a => k_is); (case l => k_is); (case c => k_is); (case k => k_is))
    (case h18 => refine' N1.dh_law_price ?a ?l ?c ?k; (case a => k_is); (case l => k_is); (case c => k_is); (case k => k_is))
    (case h19 => refine' N1.dh_law_words ?a ?l ?c ?k; (case a => k_is); (case l => k_is); (case c => k_is); (case k => k_is))
    (case h20 => refine' N1.dh_law_takes ?a ?l ?c ?k; (case a => k_is); (case l => k_is); (case c => k_is); (case k => k_is))
    (case h21 => refine' N1.dh_law_sized ?a ?l ?c ?k; (case a => k_is); (case l => k_is); (case c => k_is); (case k => k_is))
    (case la => k_is)
    (case ll => k_is)
    (case lc => k_is)
    (case lk => k_is)
    (case gc0 => k_is)
    (case gc1 => k_is)
    (case gc2 => k_is)
    (case z0 => k_is)
    (case z1 => k_is)
    (case z2 => k_is)
    (case z3 => k_is)
    (case z4 => k_is)
    (case z5 => k_is)
    (case z6 => k_is)
    (case z7 => k_is)
    (case z8 => k_is)
    (case z9 => k_is)
