import PyProof.Rows.All
import Wide.All
import OpenK.AllK
import Wide.FinOn
import HandS.ForMost
import HandS.DictComp
import HandS.DeepEq
import HandS.IsInst
import HandS.Wide
import HandS.Walk
import HandS.Flow
import PySem.Challenge.RW_gotfrom_k44_groups_led
set_option Elab.async false
set_option linter.all false
set_option maxRecDepth 100000
set_option maxHeartbeats 4000000
namespace GF
open PySem PySem.Spec PyProof.Rows L2
/-! ### heaps -/
/-- all but the addresses in W is as it was -/
def Keep (W : List Addr) (H H' : Hp) : Prop := ∀ b o, H b = some o → b ∉ W → H' b = some o
theorem Keep.of_same {W : List Addr} {H H' : Hp} (s : Same H H') : Keep W H H' := fun b o e _ => s b o e
theorem Keep.same {H H' : Hp} (s : Keep [] H H') : Same H H' := fun b o e => s b o e (by simp)
theorem Keep.refl {W : List Addr} (H : Hp) : Keep W H H := fun _ _ e _ => e
theorem Keep.trans {W : List Addr} {H H1 H2 : Hp} (a : Keep W H H1) (b : Keep W H1 H2) : Keep W H H2 := fun c o h n => b c o (a c o h n) n
theorem Keep.mono {W W' : List Addr} {H H' : Hp} (a : Keep W H H') (h : ∀ b, b ∈ W → b ∈ W') : Keep W' H H' := fun c o e n => a c o e fun m => n (h c m)
theorem Keep.at {W : List Addr} {H H' : Hp} {a : Addr} {o : HO} (k : Keep W H H') (n : a ∉ W) (e : H a = some o) : H' a = some o := k a o e n
theorem Keep.seq {K : PySem.W.Frag} {W : List Addr} {H H' : Hp} {a : Addr} {xs : List V} (e : Keep W H H') (n : a ∉ W) (h : SqL K H a xs) : SqL K H' a xs := by
  rcases h with (h | ⟨o, h⟩) | h
  · exact .inl (.inl (e _ _ h n))
  · exact .inl (.inr ⟨o, e _ _ h n⟩)
  · exact .inr h
theorem keep_upd {W : List Addr} {H : Hp} {p : Addr} {o : HO} (h : p ∈ W) : Keep W H (upd H p o) := fun b u e n => by
  rw [upd_ne (by rintro rfl; exact n h)]
  exact e
theorem keep_new {W : List Addr} {H : Hp} {p : Addr} {o : HO} (h : H p = none) : Keep W H (upd H p o) := fun b u e n => by
  rw [upd_ne (ne_of_none e h)]
  exact e
theorem same_new {H : Hp} {p : Addr} {o : HO} (h : H p = none) : Same H (upd H p o) := fun b u e => by
  rw [upd_ne (ne_of_none e h)]
  exact e
/-- a change at an address that was not there before -/
theorem same_mut {H H' : Hp} {p : Addr} {o : HO} (s : Same H H') (h : H p = none) : Same H (upd H' p o) := fun b u e => by
  rw [upd_ne (ne_of_none e h)]
  exact s b u e
theorem Keep.free {W : List Addr} {H H' : Hp} (e : Keep W H H') {l : Addr} (h : H' l = none) (n : l ∉ W) : H l = none := by
  cases q : H l with
  | none => rfl
  | some o =>
    rw [e l o q n] at h
    cases h
theorem sqL {K : PySem.W.Frag} {H : Hp} {a : Addr} {xs : List V} (h : H a = some (.lst xs)) : SqL K H a xs := .inl (.inl h)
theorem sqT {K : PySem.W.Frag} {H : Hp} {a : Addr} {xs : List V} (h : H a = some (.tup xs)) : SqT K H a xs := .inl (.inl h)
theorem sz {n : Nat} (h : n ≤ 100000) : n < sizeLine := Nat.lt_of_le_of_lt h (by decide)
theorem szl {n : Nat} (h : n ≤ 100000) : n ≤ sizeLine := Nat.le_of_lt (sz h)
/-! ### names -/
abbrev sv (l : List Str) : List V := l.map V.str
theorem sv_inj {a b : List Str} (h : sv a = sv b) : a = b := by
  induction a generalizing b with
  | nil =>
    cases b with
    | nil => rfl
    | cons y r => cases h
  | cons x r ih =>
    cases b with
    | nil => cases h
    | cons y s =>
      injection h with h1 h2
      injection h1 with h1
      rw [h1, ih h2]
theorem flat_sv (l : List Str) : (sv l).all flatV = true := List.all_eq_true.mpr fun x hx => by
  obtain ⟨y, _, rfl⟩ := List.mem_map.mp hx
  rfl
theorem eqV_str (x y : Str) : eqV (.str x) (.str y) = decide (x = y) := by
  by_cases h : x = y
  · subst h; simp [eqV]
  · simp [eqV, h]
theorem inV_sv (x : Str) (l : List Str) : inV (.str x) (sv l) = decide (x ∈ l) := by
  induction l with
  | nil => rfl
  | cons y r ih =>
    show (eqV (.str y) (.str x) || inV (.str x) (sv r)) = _
    rw [ih, eqV_str]
    by_cases h : y = x
    · subst h; simp
    · by_cases h2 : x ∈ r
      · simp [h2]
      · simp [h, h2, Ne.symm h]
theorem sv_get {l : List Str} {i : Nat} {x : Str} (h : l[i]? = some x) : (sv l)[i]? = some (.str x) := by
  rw [List.getElem?_map, h]
  rfl
theorem sv_get' {l : List Str} {i : Nat} {v : V} (h : (sv l)[i]? = some v) : ∃ x, l[i]? = some x ∧ v = .str x := by
  rw [List.getElem?_map] at h
  cases e : l[i]? with
  | none => rw [e] at h; cases h
  | some x => rw [e] at h; exact ⟨x, rfl, (Option.some.inj h).symm⟩
/-! ### data -/
theorem dp_sv {K : PySem.W.Frag} {H : Hp} (l : List Str) : DpAll K H (sv l) (l.map PyData.str) := by
  induction l with
  | nil => exact .nil
  | cons x r ih => exact .cons (.str x) ih
theorem dp_strs {K : PySem.W.Frag} {H : Hp} {a : Addr} {l : List Str} (h : SqL K H a (sv l)) : Dp K H (.ref a) (.list (l.map PyData.str)) := .lst h (dp_sv l)
theorem eqvAll_strs (a b : List Str) : PyData.eqvAll (a.map PyData.str) (b.map PyData.str) = decide (a = b) := by
  induction a generalizing b with
  | nil =>
    cases b with
    | nil => rfl
    | cons y r => rfl
  | cons x r ih =>
    cases b with
    | nil => rfl
    | cons y s =>
      show ((x == y) && PyData.eqvAll (r.map PyData.str) (s.map PyData.str)) = _
      rw [ih]
      by_cases h : x = y
      · subst h
        by_cases h2 : r = s
        · subst h2; simp
        · simp [h2]
      · simp [h]
theorem eqv_strs (a b : List Str) : PyData.eqv (.list (a.map PyData.str)) (.list (b.map PyData.str)) = decide (a = b) := eqvAll_strs a b
theorem canLay_strs {a : List Str} (h : ∀ x ∈ a, PyData.strOk x = true) : PyData.canLayAll0 (a.map PyData.str) = true := by
  induction a with
  | nil => rfl
  | cons x r ih =>
    have h1 := ih fun y hy => h y (List.mem_cons_of_mem _ hy)
    simp [PyData.canLayAll0, PyData.canLay0, h x List.mem_cons_self, h1]
theorem depth_strs (a : List Str) : PyData.depthAll (a.map PyData.str) ≤ 1 := by
  induction a with
  | nil => simp [PyData.depthAll]
  | cons x r ih => simpa [PyData.depthAll, PyData.depth] using ih
theorem shaped_strs {a : List Str} (h : ∀ x ∈ a, PyData.strOk x = true) : SeqAt.shaped (.list (a.map PyData.str)) = true := by
  have h1 : PyData.canLay0 (.list (a.map PyData.str)) = true := by simpa [PyData.canLay0] using canLay_strs h
  have h2 : PyData.depth (.list (a.map PyData.str)) ≤ 64 := by
    have := depth_strs a
    simp only [PyData.depth]; omega
  unfold SeqAt.shaped
  rw [h1]
  simp [h2]
/-! ### rules that the layer lacks -/
section
variable {J : It} {n : Nat} {G : Hp → Prop} {Y : Nat → Hp → V → Hp → Prop}
/-- a dict comprehension over any walk -/
theorem dc_it (w : Walk J n G Y) {g : TG} {tt : TT} {tk tv : TE} {vs : List Nat} {σ : L2.St} {H1 : Hp} {D : Addr} {Qd : Hp → Prop} (Pv : Nat → Hp → Prop) (h0 : Pv 0 (upd H1 D (.dK [])))
    (hG : ∀ i H, i ≤ n → Pv i H → G H)
    (hs : ∀ i x H H', i < n → Pv i H → Y i H x H' → g x (wipe σ vs) H' fun σ2 H2 => wipe σ2 vs = wipe σ vs ∧
      tt σ2 H2 fun b H3 => if b = true then tk σ2 H3 fun y H4 => tv σ2 H4 fun z H5 =>
        ∃ kvs k, y = kV k ∧ H5 D = some (.dK kvs) ∧ kvs.length < sizeLine ∧ Pv (i + 1) (upd H5 D (.dK (putK kvs k z)))
      else Pv (i + 1) H3)
    (hd : ∀ H, Pv n H → Qd H) :
    ∃ W : Nat → Nat → Hp → Prop, (∃ m, W 0 m (upd H1 D (.dK []))) ∧ ∀ i m H, W i m H →
      (J.stop i H ∧ Qd H) ∨ (J.go i H ∧ ∃ Nx : Hp → Prop, (∀ H', Nx H' → ∃ m', m' < m ∧ W (i + 1) m' H') ∧
        ∀ x H', J.yld i H x H' → g x (wipe σ vs) H' fun σ2 H2 => wipe σ2 vs = wipe σ vs ∧
          tt σ2 H2 fun b H3 => if b = true then tk σ2 H3 fun y H4 => tv σ2 H4 fun z H5 =>
            ∃ kvs k, y = kV k ∧ H5 D = some (.dK kvs) ∧ kvs.length < sizeLine ∧ Nx (upd H5 D (.dK (putK kvs k z)))
          else Nx H3) :=
  ⟨fun i m H => m + i = n ∧ Pv i H, ⟨n, Nat.add_zero n, h0⟩, fun i m H ⟨e, p⟩ => by
    have q := hG i H (by omega) p
    rcases Nat.lt_or_ge i n with h | h
    · exact .inr ⟨w.goes i H h q, Pv (i + 1), fun H' p' => ⟨n - (i + 1), by omega, by omega, p'⟩, fun x H' y => hs i x H H' h p (w.yields i H x H' h q y)⟩
    · have e' : i = n := by omega
      subst e'
      exact .inl ⟨w.stops H q, hd H p⟩⟩
end
/-- a list of names, walked -/
theorem walk_sv {K : PySem.W.Frag} {a : Addr} (ms : List Str) : Walk (Itl K a) ms.length (fun H => SqL K H a (sv ms)) (fun i H x H' => H' = H ∧ ∃ m, ms[i]? = some m ∧ x = .str m) := by
  have h := walk_list (K := K) (a := a) (xs := sv ms)
  rw [List.length_map] at h
  exact h.mono (fun _ q => q) fun i H x H' _ _ y => ⟨y.1, sv_get' y.2⟩
def rListOf (K : PySem.W.Frag) : List V → Hp → VK → Prop := fun xs H Q => ∃ p ys, xs = [.ref p] ∧
  (SqL K H p ys ∨ SqT K H p ys) ∧ ∀ l, H l = none → Q (.ref l) (upd H l (.lst ys))
theorem call_listK {X : Cx} : CallR X (.type "list") (rListOf X.K) := call_list_of
def rLenOf (K : PySem.W.Frag) : List V → Hp → VK → Prop := fun xs H Q => ∃ p ys, xs = [.ref p] ∧ (SqL K H p ys ∨ SqT K H p ys) ∧
  Q (.int ys.length) H
theorem call_lenK {X : Cx} : CallR X (.builtin "len") (rLenOf X.K) := call_len_seq
/-- x != y, two dicts that are equal (values of any nesting) -/
def rNeDict (K : PySem.W.Frag) : R2 := fun x y H Q => ∃ a b ks ls, x = .ref a ∧ y = .ref b ∧ H a = some (.dK ks) ∧ H b = some (.dK ls) ∧ ks.length = ls.length ∧
  (∀ p ∈ ks, ∃ u, valV ls p.1 = some u ∧ EqV K H 60 p.2 u) ∧ Q (.bl false) H
theorem op_neDict {X : Cx} (hu : X.A.units + 64 < cLine) : OpR X (compareOp .NotEq) (rNeDict X.K) := by
  intro pins s σ H x y v u Q I rx ry h
  obtain ⟨a, b, ks, ls, rfl, rfl, ha, hb, hl, hp, q⟩ := h
  cases (show v = Value.ref a from rx); cases (show u = Value.ref b from ry)
  obtain ⟨_, ya, va, ra, da⟩ := I.hok a _ ha; obtain ⟨_, yb, vb, rb, db⟩ := I.hok b _ hb
  have e : (va.length == vb.length && true) = true := by rw [← ra.length, ← rb.length, hl]; simp
  refine wpAny_richCompare_same_room (op := .NotEq) da.typeIs db.typeIs PySem.F.slot_dict_ne (wpAny_call_entry PySem.F.slot_dict_ne da.typeIs PySem.F.entry_dict_ne ?_
    (PySem.F.args_dict_ne_2 _ _)) (show X.A.units < cLine by omega)
  show wpAny _ _ (Builtin.Dict.dictSlotArgs "__ne__" ⟨[.ref a, .ref b], []⟩ >>= _) _ _ s
  refine wpAny_bind ?_; unfold Builtin.Dict.dictSlotArgs
  refine wpAny_bind (wpAny_notOrdered_dict da.typeIs ?_); show wpAny _ _ (pure (Value.ref a, Value.ref b)) _ _ s
  refine wpAny_pure (wpAny_bind (wpAny_isInstance (T := "dict") db.typeIs PySem.F.sub_dict_dict ?_))
  simp only [Bool.not_true, Bool.false_eq_true, if_false]
  refine wpAny_bind (wpAny_pure (wpAny_bind (wpAny_pure (wpAny_bind (PySem.W.samePairsP (r := true) ya yb da db (fun _ =>
    hits_run (F := EqV X.K H 60) (fun x y v u h r1 r2 => eqV_run I 60 X.A.in1 (by show X.A.units + 1 + 60 < cLine; omega) x y v u h r1 r2) rb ra hp) ?_)))))
  rw [e]
  exact wpAny_pure ⟨_, rfl, (fun z => by cases z), ⟨.bl false, H, I, rfl, q⟩⟩
/-! ### a dict of lists of names -/
/-- pairs of a dict whose keys are ms, the value of m is v m -/
def mkd (ms : List Str) (v : Str → V) : List (Key × V) := ms.map fun m => (Sum.inr m, v m)
abbrev mkv (ms : List Str) (ad : Str → Addr) : List (Key × V) := mkd ms fun m => .ref (ad m)
theorem mkd_val {ms : List Str} {v : Str → V} {m : Str} (h : m ∈ ms) : valV (mkd ms v) (Sum.inr m : Key) = some (v m) := by
  induction ms with
  | nil => simp at h
  | cons x r ih =>
    by_cases e : x = m
    · subst e; exact valV_pos rfl
    · have e' : ¬ (Sum.inr x : Key) = Sum.inr m := fun z => e (Sum.inr.inj z)
      exact (valV_neg e').trans (ih ((List.mem_cons.mp h).resolve_left (Ne.symm e)))
theorem mkv_val {ms : List Str} {ad : Str → Addr} {m : Str} (h : m ∈ ms) : valV (mkv ms ad) (Sum.inr m : Key) = some (.ref (ad m)) := mkd_val h
theorem mkd_none {ms : List Str} {v : Str → V} {m : Str} (h : m ∉ ms) : valV (mkd ms v) (Sum.inr m : Key) = none := by
  induction ms with
  | nil => rfl
  | cons x r ih =>
    obtain ⟨h1, h2⟩ := not_or.mp (mt List.mem_cons.mpr h)
    have e' : ¬ (Sum.inr x : Key) = Sum.inr m := fun z => h1 (Sum.inr.inj z).symm
    exact (valV_neg e').trans (ih h2)
theorem mkd_len (ms : List Str) (v : Str → V) : (mkd ms v).length = ms.length := List.length_map _
theorem mkd_snoc {ms : List Str} {v v' : Str → V} {m : Str} {z : V} (h : m ∉ ms) (h1 : ∀ x ∈ ms, v' x = v x) (h2 : v' m = z) : putK (mkd ms v) (Sum.inr m) z = mkd (ms ++ [m]) v' := by
  rw [putK_new _ (mkd_none h)]
  unfold mkd
  rw [List.map_append]
  congr 1
  · exact List.map_congr_left fun x hx => by rw [h1 x hx]
  · simp [h2]
/-- two dicts of flat values -/
theorem mkd_eqs {K : PySem.W.Frag} {H : Hp} {ms : List Str} {v u : Str → V} (h : ∀ m ∈ ms, v m = u m) (hf : ∀ m ∈ ms, flatB (v m) = true) (n : Nat) : ∀ p ∈ mkd ms v, ∃ z, valV (mkd ms u) p.1 = some z ∧ EqV K H (n + 1) p.2 z := by
  intro p hp
  obtain ⟨m, hm, rfl⟩ := List.mem_map.mp hp
  exact ⟨u m, mkd_val hm, .inl ⟨h m hm, hf m hm⟩⟩
/-- at d a dict whose keys are ms, the value of m the list at ad m, which holds f m -/
structure DL (H : Hp) (d : Addr) (ms : List Str) (ad : Str → Addr) (f : Str → List Str) : Prop where
  dict : H d = some (.dK (mkv ms ad))
  at_ : ∀ m ∈ ms, H (ad m) = some (.lst (sv (f m)))
theorem DL.get {H : Hp} {d : Addr} {ms : List Str} {ad : Str → Addr} {f : Str → List Str} (h : DL H d ms ad f) {m : Str} (hm : m ∈ ms) : DGet H d (.str m) (some (.ref (ad m))) := by
  have := DGet.k (k := Sum.inr m) h.dict
  rw [mkv_val hm] at this
  exact this
theorem DL.keep {W : List Addr} {H H' : Hp} {d : Addr} {ms : List Str} {ad : Str → Addr} {f : Str → List Str} (h : DL H d ms ad f) (k : Keep W H H') (n : d ∉ W) (n2 : ∀ m ∈ ms, ad m ∉ W) : DL H' d ms ad f :=
  ⟨k _ _ h.dict n, fun m hm => k _ _ (h.at_ m hm) (n2 m hm)⟩
theorem DL.same {H H' : Hp} {d : Addr} {ms : List Str} {ad : Str → Addr} {f : Str → List Str} (h : DL H d ms ad f) (k : Same H H') : DL H' d ms ad f := ⟨k _ _ h.dict, fun m hm => k _ _ (h.at_ m hm)⟩
/-- one more member -/
def pad (ad : Str → Addr) (m : Str) (l : Addr) : Str → Addr := fun y => if y = m then l else ad y
theorem pad_same {ad : Str → Addr} {m : Str} {l : Addr} : pad ad m l m = l := if_pos rfl
theorem pad_ne {ad : Str → Addr} {m y : Str} {l : Addr} (h : y ≠ m) : pad ad m l y = ad y := if_neg h
/-- a dict of new lists: they stand apart and were not there in H0 -/
structure DN (H0 H : Hp) (d : Addr) (ms : List Str) (ad : Str → Addr) (f : Str → List Str) : Prop where
  dl : DL H d ms ad f
  d0 : H0 d = none
  new : ∀ m ∈ ms, H0 (ad m) = none
  inj : ∀ x ∈ ms, ∀ y ∈ ms, ad x = ad y → x = y
theorem DN.nil {H0 H : Hp} {d : Addr} {ad : Str → Addr} {f : Str → List Str} (h : H0 d = none) (e : H d = some (.dK [])) : DN H0 H d [] ad f := ⟨⟨e, fun _ z => by cases z⟩, h, fun _ z => (by cases z), fun _ z => (by cases z)⟩
theorem DN.snoc {H0 H H1 : Hp} {d l : Addr} {ms : List Str} {ad : Str → Addr} {f : Str → List Str} {m : Str} (h : DN H0 H d ms ad f) (s0 : Same H0 H) (hm : m ∉ ms) (s : Same H H1) (nl : H l = none) (el : H1 l = some (.lst (sv (f m)))) :
    DN H0 (L2.upd H1 d (.dK (putK (mkv ms ad) (Sum.inr m) (.ref l)))) d (ms ++ [m]) (pad ad m l) f := by
  have nld : l ≠ d := fun z => by subst z; rw [h.dl.dict] at nl; cases nl
  have ne : ∀ x ∈ ms, x ≠ m := fun x hx z => hm (z ▸ hx)
  have had : ∀ x ∈ ms, ad x ≠ l := fun x hx z => by rw [← z, h.dl.at_ x hx] at nl; cases nl
  have hdk : ∀ x ∈ ms, ad x ≠ d := fun x hx => ne_of (h.dl.at_ x hx) h.dl.dict (fun z => by cases z)
  refine ⟨⟨?_, fun x hx => ?_⟩, h.d0, fun x hx => ?_, fun x hx y hy e => ?_⟩
  · rw [upd_same, mkd_snoc (v' := fun y => .ref (pad ad m l y)) hm (fun x hx => by rw [pad_ne (ne x hx)]) (by rw [pad_same])]
  · rcases List.mem_append.mp hx with hx | hx
    · rw [pad_ne (ne x hx), upd_ne (hdk x hx)]
      exact s _ _ (h.dl.at_ x hx)
    · cases List.mem_singleton.mp hx
      rw [pad_same, upd_ne nld]
      exact el
  · rcases List.mem_append.mp hx with hx | hx
    · rw [pad_ne (ne x hx)]; exact h.new x hx
    · cases List.mem_singleton.mp hx
      rw [pad_same]; exact s0.free nl
  · rcases List.mem_append.mp hx with hx | hx <;> rcases List.mem_append.mp hy with hy | hy
    · rw [pad_ne (ne x hx), pad_ne (ne y hy)] at e; exact h.inj x hx y hy e
    · cases List.mem_singleton.mp hy
      rw [pad_ne (ne x hx), pad_same] at e; exact absurd e (had x hx)
    · cases List.mem_singleton.mp hx
      rw [pad_ne (ne y hy), pad_same] at e; exact absurd e.symm (had y hy)
    · rw [List.mem_singleton.mp hx, List.mem_singleton.mp hy]
theorem take_snoc {α : Type} {l : List α} {i : Nat} {x : α} (h : l[i]? = some x) : l.take (i + 1) = l.take i ++ [x] := by
  rw [List.take_add_one, h]; rfl
theorem not_take {l : List Str} {i : Nat} {x : Str} (nd : l.Nodup) (h : l[i]? = some x) : x ∉ l.take i := fun m => by
  obtain ⟨hi, ei⟩ := List.getElem?_eq_some_iff.mp h
  obtain ⟨j, hj, ej⟩ := List.getElem_of_mem m
  rw [List.getElem_take] at ej
  have hj' : j < i := by rw [List.length_take] at hj; omega
  have := (List.getElem_inj nd).mp (ej.trans ei.symm)
  omega
/-- f with x for m -/
def put (f : Str → List Str) (m : Str) (x : List Str) : Str → List Str := fun y => if y = m then x else f y
theorem put_same {f : Str → List Str} {m : Str} {x : List Str} : put f m x m = x := if_pos rfl
theorem put_ne {f : Str → List Str} {m y : Str} {x : List Str} (h : y ≠ m) : put f m x y = f y := if_neg h
/-- one list is changed -/
theorem DL.upd {H : Hp} {d : Addr} {ms : List Str} {ad : Str → Addr} {f : Str → List Str} (h : DL H d ms ad f) {m : Str} (hm : m ∈ ms) (inj : ∀ x ∈ ms, ∀ y ∈ ms, ad x = ad y → x = y) {x : List Str} : DL (upd H (ad m) (.lst (sv x))) d ms ad (put f m x) := by
  refine ⟨?_, fun y hy => ?_⟩
  · rw [upd_ne (ne_of h.dict (h.at_ m hm) (fun z => by cases z))]
    exact h.dict
  · by_cases e : y = m
    · subst e; rw [upd_same, put_same]
    · rw [upd_ne (fun z => e (inj y hy m hm z)), put_ne e]
      exact h.at_ y hy
theorem DL.congr {H : Hp} {d : Addr} {ms : List Str} {ad : Str → Addr} {f g : Str → List Str} (h : DL H d ms ad f) (e : ∀ m ∈ ms, f m = g m) : DL H d ms ad g := ⟨h.dict, fun m hm => by rw [← e m hm]; exact h.at_ m hm⟩
theorem DN.set {H0 H : Hp} {d : Addr} {ms : List Str} {ad : Str → Addr} {f : Str → List Str} (h : DN H0 H d ms ad f) {m : Str} (hm : m ∈ ms) {x : List Str} : DN H0 (L2.upd H (ad m) (.lst (sv x))) d ms ad (put f m x) :=
  ⟨h.dl.upd hm h.inj, h.d0, h.new, h.inj⟩
theorem DN.congr {H0 H : Hp} {d : Addr} {ms : List Str} {ad : Str → Addr} {f g : Str → List Str} (h : DN H0 H d ms ad f) (e : ∀ m ∈ ms, f m = g m) : DN H0 H d ms ad g := ⟨DL.congr h.dl e, h.d0, h.new, h.inj⟩
/-- equal dicts of lists -/
theorem DL.eqs {K : PySem.W.Frag} {H : Hp} {d e : Addr} {ms : List Str} {ad ae : Str → Addr} {f g : Str → List Str} (h : DL H d ms ad f) (k : DL H e ms ae g) (hf : ∀ m ∈ ms, f m = g m) (n : Nat) :
    ∀ p ∈ mkv ms ad, ∃ u, valV (mkv ms ae) p.1 = some u ∧ EqV K H (n + 2) p.2 u := by
  intro p hp
  obtain ⟨m, hm, rfl⟩ := List.mem_map.mp hp
  refine ⟨.ref (ae m), mkv_val hm, .inr (.inr (.inl ⟨ad m, ae m, sv (f m), sv (g m), rfl, rfl, sqL (h.at_ m hm), sqL (k.at_ m hm), ?_⟩))⟩
  rw [hf m hm]
  generalize g m = l
  induction l with
  | nil => exact .nil
  | cons x r ih => exact .cons (.inl ⟨rfl, rfl⟩) ih
/-! ### the givers of a history -/
/-- of whom m got the document -/
def givers (m : Str) : List Str → List Str
  | a :: b :: r => if b = m then a :: givers m (b :: r) else givers m (b :: r)
  | _ => []
theorem givers_snoc (m y x : Str) : ∀ h : List Str, givers m (h ++ [y, x]) = givers m (h ++ [y]) ++ (if x = m then [y] else [])
  | [] => by
    show (if x = m then [y] else []) = _
    split <;> rfl
  | [a] => by
    show (if y = m then a :: givers m [y, x] else givers m [y, x]) = (if y = m then [a] else []) ++ _
    rw [show givers m [y, x] = if x = m then [y] else [] from rfl]
    split <;> rfl
  | a :: b :: r => by
    have ih := givers_snoc m y x (b :: r)
    show (if b = m then a :: givers m (b :: r ++ [y, x]) else givers m (b :: r ++ [y, x])) = (if b = m then a :: givers m (b :: r ++ [y]) else givers m (b :: r ++ [y])) ++ _
    rw [ih]
    split <;> rfl
theorem givers_last {m x : Str} {h : List Str} (hn : h ≠ []) : givers m (h ++ [x]) = givers m h ++ (if x = m then [h.getLast hn] else []) := by
  have e := List.dropLast_concat_getLast hn
  generalize h.getLast hn = y at e ⊢
  generalize h.dropLast = p at e
  subst e
  rw [List.append_assoc]
  exact givers_snoc m y x p
theorem givers_mem {m g : Str} : ∀ {h : List Str}, g ∈ givers m h → g ∈ h
  | [], k => by simp [givers] at k
  | [_], k => by simp [givers] at k
  | a :: b :: r, k => by
    have k : g ∈ (if b = m then a :: givers m (b :: r) else givers m (b :: r)) := k
    by_cases e : b = m
    · rw [if_pos e] at k
      rcases List.mem_cons.mp k with z | z
      · exact z ▸ List.mem_cons_self
      · exact List.mem_cons_of_mem _ (givers_mem z)
    · rw [if_neg e] at k
      exact List.mem_cons_of_mem _ (givers_mem k)
theorem idx_self (a : Str) (r : List Str) : (a :: r).idxOf a = 0 := by simp
theorem idx_ne {a b : Str} (r : List Str) (h : b ≠ a) : (a :: r).idxOf b = r.idxOf b + 1 := by
  have e : (a == b) = false := by simp [Ne.symm h]
  rw [List.idxOf_cons, e]
  rfl
/-- the first entry of a member other than the first holder had the document before the member -/
theorem givers_head {m g : Str} {t : List Str} : ∀ {a : Str} {r : List Str}, m ≠ a → givers m (a :: r) = g :: t → (a :: r).idxOf g < (a :: r).idxOf m
  | a, [], _, k => by simp [givers] at k
  | a, b :: r, n, k => by
    have k : (if b = m then a :: givers m (b :: r) else givers m (b :: r)) = g :: t := k
    rw [idx_ne _ n]
    by_cases e : b = m
    · rw [if_pos e] at k
      injection k with k1 k2
      rw [k1, idx_self]
      exact Nat.succ_pos _
    · rw [if_neg e] at k
      have ih := givers_head (Ne.symm e) k
      by_cases e2 : g = a
      · rw [e2, idx_self]
        exact Nat.succ_pos _
      · rw [idx_ne _ e2]
        omega
theorem givers_len (m : Str) : ∀ h : List Str, (givers m h).length ≤ h.length
  | [] => Nat.zero_le _
  | [_] => Nat.zero_le _
  | a :: b :: r => by
    have ih := givers_len m (b :: r)
    show (if b = m then a :: givers m (b :: r) else givers m (b :: r)).length ≤ _
    split <;> simp only [List.length_cons] at ih ⊢ <;> omega
theorem sum_zero {ms : List Str} {f : Str → Nat} (h : ∀ m ∈ ms, f m = 0) : (ms.map f).sum = 0 := by
  induction ms with
  | nil => rfl
  | cons x r ih => simp [h x List.mem_cons_self, ih fun m hm => h m (List.mem_cons_of_mem _ hm)]
theorem sum_le {ms : List Str} {f g : Str → Nat} (h : ∀ m ∈ ms, f m ≤ g m) : (ms.map f).sum ≤ (ms.map g).sum := by
  induction ms with
  | nil => exact Nat.le_refl _
  | cons x r ih =>
    have h1 := h x List.mem_cons_self
    have h2 := ih fun m hm => h m (List.mem_cons_of_mem _ hm)
    simp only [List.map_cons, List.sum_cons]
    omega
theorem sum_eq {ms : List Str} {f g : Str → Nat} (h : ∀ m ∈ ms, f m = g m) : (ms.map f).sum = (ms.map g).sum := by
  rw [List.map_congr_left h]
theorem sum_one {ms : List Str} (nd : ms.Nodup) (b : Str) (c : Nat) : (ms.map fun m => if b = m then c else 0).sum ≤ c := by
  induction ms with
  | nil => exact Nat.zero_le _
  | cons x r ih =>
    obtain ⟨n1, n2⟩ := List.nodup_cons.mp nd
    simp only [List.map_cons, List.sum_cons]
    by_cases e : b = x
    · subst e
      rw [if_pos rfl, sum_zero (f := fun m => if b = m then c else 0) fun m hm => if_neg (by rintro rfl; exact n1 hm)]
      omega
    · rw [if_neg e]
      have := ih n2
      omega
theorem sum_add {ms : List Str} {f g : Str → Nat} : (ms.map fun m => f m + g m).sum = (ms.map f).sum + (ms.map g).sum := by
  induction ms with
  | nil => rfl
  | cons x r ih => simp only [List.map_cons, List.sum_cons, ih]; omega
/-- all entries together are not more than the holders -/
theorem givers_sum {ms : List Str} (nd : ms.Nodup) : ∀ h : List Str, (ms.map fun m => (givers m h).length).sum ≤ h.length
  | [] => by rw [sum_zero (f := fun m => (givers m []).length) fun _ _ => rfl]; exact Nat.zero_le _
  | [a] => by rw [sum_zero (f := fun m => (givers m [a]).length) fun _ _ => rfl]; exact Nat.zero_le _
  | a :: b :: r => by
    have ih := givers_sum nd (b :: r)
    have e : (ms.map fun m => (givers m (a :: b :: r)).length).sum = (ms.map fun m => (givers m (b :: r)).length + (if b = m then 1 else 0)).sum := sum_eq fun m _ => by
      show (if b = m then a :: givers m (b :: r) else givers m (b :: r)).length = _
      split <;> simp
    rw [e, sum_add]
    have := sum_one nd b 1
    simp only [List.length_cons] at ih ⊢
    omega
end GF
namespace K44
open PySem PySem.Spec PyProof.Rows L2 GF
/-! ### the text by places (printed by gen.py) -/
def topS (i : Nat) : Stmt := PySem.Challenge.pw_gotfrom_k44_groups_led.main.body.getD i (.Pass ⟨0, 0, 0, 0⟩)
abbrev s_is_name : Stmt := topS 12
theorem sc_is_name : FnScope ["value", "letter"] ["value"] (defScope s_is_name) := ⟨rfl, rfl, rfl, by decide +kernel, rfl, by decide +kernel, by decide +kernel⟩
-- slots: 0:value 1:letter
abbrev s_is_members : Stmt := topS 13
theorem sc_is_members : FnScope ["value", "member", "one", "other"] ["value"] (defScope s_is_members) := ⟨rfl, rfl, rfl, by decide +kernel, rfl, by decide +kernel, by decide +kernel⟩
-- slots: 0:value 1:member 2:one 3:other
abbrev s_need_members : Stmt := topS 14
theorem sc_need_members : FnScope ["members"] ["members"] (defScope s_need_members) := ⟨rfl, rfl, rfl, by decide +kernel, rfl, by decide +kernel, by decide +kernel⟩
-- slots: 0:members
abbrev s_need_one_of : Stmt := topS 16
theorem sc_need_one_of : FnScope ["members", "value"] ["members", "value"] (defScope s_need_one_of) := ⟨rfl, rfl, rfl, by decide +kernel, rfl, by decide +kernel, by decide +kernel⟩
-- slots: 0:members 1:value
abbrev s_Auditor_init : Stmt := inClass (topS 17) 0
theorem sc_Auditor_init : FnScope ["self", "members", "first", "member"] ["self", "members", "first"] (defScope s_Auditor_init) := ⟨rfl, rfl, rfl, by decide +kernel, rfl, by decide +kernel, by decide +kernel⟩
-- slots: 0:self 1:members 2:first 3:member
abbrev s_Auditor_ring_by : Stmt := inClass (topS 17) 1
theorem sc_Auditor_ring_by : FnScope ["self", "member", "giver", "found", "here"] ["self", "member", "giver"] (defScope s_Auditor_ring_by) := ⟨rfl, rfl, rfl, by decide +kernel, rfl, by decide +kernel, by decide +kernel⟩
-- slots: 0:self 1:member 2:giver 3:found 4:here
abbrev s_Auditor_receive : Stmt := inClass (topS 17) 2
theorem sc_Auditor_receive : FnScope ["self", "member", "giver", "ring"] ["self", "member", "giver"] (defScope s_Auditor_receive) := ⟨rfl, rfl, rfl, by decide +kernel, rfl, by decide +kernel, by decide +kernel⟩
-- slots: 0:self 1:member 2:giver 3:ring
abbrev s_Auditor_received_lists : Stmt := inClass (topS 17) 3
theorem sc_Auditor_received_lists : FnScope ["self", "member"] ["self"] (defScope s_Auditor_received_lists) := ⟨rfl, rfl, rfl, by decide +kernel, rfl, by decide +kernel, by decide +kernel⟩
-- slots: 0:self 1:member
abbrev s_Group_init : Stmt := inClass (topS 18) 0
theorem sc_Group_init : FnScope ["self", "members", "first", "member"] ["self", "members", "first"] (defScope s_Group_init) := ⟨rfl, rfl, rfl, by decide +kernel, rfl, by decide +kernel, by decide +kernel⟩
-- slots: 0:self 1:members 2:first 3:member
abbrev s_Group_hand_to : Stmt := inClass (topS 18) 1
theorem sc_Group_hand_to : FnScope ["self", "member"] ["self", "member"] (defScope s_Group_hand_to) := ⟨rfl, rfl, rfl, by decide +kernel, rfl, by decide +kernel, by decide +kernel⟩
-- slots: 0:self 1:member
abbrev s_Group_holder_now : Stmt := inClass (topS 18) 2
theorem sc_Group_holder_now : FnScope ["self"] ["self"] (defScope s_Group_holder_now) := ⟨rfl, rfl, rfl, by decide +kernel, rfl, by decide +kernel, by decide +kernel⟩
-- slots: 0:self
abbrev s_Group_history_so_far : Stmt := inClass (topS 18) 3
theorem sc_Group_history_so_far : FnScope ["self"] ["self"] (defScope s_Group_history_so_far) := ⟨rfl, rfl, rfl, by decide +kernel, rfl, by decide +kernel, by decide +kernel⟩
-- slots: 0:self
abbrev s_Group_lists_so_far : Stmt := inClass (topS 18) 4
theorem sc_Group_lists_so_far : FnScope ["self", "member"] ["self"] (defScope s_Group_lists_so_far) := ⟨rfl, rfl, rfl, by decide +kernel, rfl, by decide +kernel, by decide +kernel⟩
-- slots: 0:self 1:member
abbrev s_Group_waiting : Stmt := inClass (topS 18) 5
theorem sc_Group_waiting : FnScope ["self", "member"] ["self", "member"] (defScope s_Group_waiting) := ⟨rfl, rfl, rfl, by decide +kernel, rfl, by decide +kernel, by decide +kernel⟩
-- slots: 0:self 1:member
abbrev s_Group_deliver_from : Stmt := inClass (topS 18) 6
theorem sc_Group_deliver_from : FnScope ["self", "member", "giver"] ["self", "member"] (defScope s_Group_deliver_from) := ⟨rfl, rfl, rfl, by decide +kernel, rfl, by decide +kernel, by decide +kernel⟩
-- slots: 0:self 1:member 2:giver
abbrev s_Group_deliver_all : Stmt := inClass (topS 18) 7
theorem sc_Group_deliver_all : FnScope ["self", "many", "member", "turn"] ["self"] (defScope s_Group_deliver_all) := ⟨rfl, rfl, rfl, by decide +kernel, rfl, by decide +kernel, by decide +kernel⟩
-- slots: 0:self 1:many 2:member 3:turn
abbrev s_Group_reports_in_transit : Stmt := inClass (topS 18) 8
theorem sc_Group_reports_in_transit : FnScope ["self", "member"] ["self"] (defScope s_Group_reports_in_transit) := ⟨rfl, rfl, rfl, by decide +kernel, rfl, by decide +kernel, by decide +kernel⟩
-- slots: 0:self 1:member
abbrev s_Group_known_so_far : Stmt := inClass (topS 18) 9
theorem sc_Group_known_so_far : FnScope ["self"] ["self"] (defScope s_Group_known_so_far) := ⟨rfl, rfl, rfl, by decide +kernel, rfl, by decide +kernel, by decide +kernel⟩
-- slots: 0:self
abbrev s_l_bag : Stmt := topS 20
theorem sc_l_bag : FnScope ["_law_script", "_law_k", "_law_cell"] ["_law_script", "_law_k"] (defScope s_l_bag) := ⟨rfl, rfl, rfl, by decide +kernel, rfl, by decide +kernel, by decide +kernel⟩
-- slots: 0:_law_script 1:_law_k 2:_law_cell
abbrev s_l_take : Stmt := topS 21
theorem sc_l_take : FnScope ["_law_bag_here", "_law_many", "_law_found", "_law_mark"] ["_law_bag_here", "_law_many"] (defScope s_l_take) := ⟨rfl, rfl, rfl, by decide +kernel, rfl, by decide +kernel, by decide +kernel⟩
-- slots: 0:_law_bag_here 1:_law_many 2:_law_found 3:_law_mark
abbrev s_l_pick : Stmt := topS 22
theorem sc_l_pick : FnScope ["_law_bag_here", "_law_values"] ["_law_bag_here", "_law_values"] (defScope s_l_pick) := ⟨rfl, rfl, rfl, by decide +kernel, rfl, by decide +kernel, by decide +kernel⟩
-- slots: 0:_law_bag_here 1:_law_values
abbrev s_l_members : Stmt := topS 23
theorem sc_l_members : FnScope ["_law_bag_here", "_law_least", "_law_most", "_law_pool"] ["_law_bag_here", "_law_least", "_law_most"] (defScope s_l_members) := ⟨rfl, rfl, rfl, by decide +kernel, rfl, by decide +kernel, by decide +kernel⟩
-- slots: 0:_law_bag_here 1:_law_least 2:_law_most 3:_law_pool
abbrev s_l_walk : Stmt := topS 24
theorem sc_l_walk : FnScope ["_law_bag_here", "_law_members_here", "_law_history", "_law_many", "_law_style", "_law_found", "_law_turn", "_law_others", "_law_back", "_law_after", "_law_some", "_law_member"] ["_law_bag_here", "_law_members_here", "_law_history", "_law_many", "_law_style"] (defScope s_l_walk) := ⟨rfl, rfl, rfl, by decide +kernel, rfl, by decide +kernel, by decide +kernel⟩
-- slots: 0:_law_bag_here 1:_law_members_here 2:_law_history 3:_law_many 4:_law_style 5:_law_found 6:_law_turn 7:_law_others 8:_law_back 9:_law_after 10:_law_some 11:_law_member
abbrev s_l_lists : Stmt := topS 25
theorem sc_l_lists : FnScope ["_law_members_here", "_law_history", "_law_found", "_law_at", "_law_member"] ["_law_members_here", "_law_history"] (defScope s_l_lists) := ⟨rfl, rfl, rfl, by decide +kernel, rfl, by decide +kernel, by decide +kernel⟩
-- slots: 0:_law_members_here 1:_law_history 2:_law_found 3:_law_at 4:_law_member
abbrev s_l_equal : Stmt := topS 26
theorem sc_l_equal : FnScope ["_law_members_here", "_law_group", "_law_history", "_law_known", "_law_lists_here", "_law_transit", "_law_member"] ["_law_members_here", "_law_group", "_law_history", "_law_known"] (defScope s_l_equal) := ⟨rfl, rfl, rfl, by decide +kernel, rfl, by decide +kernel, by decide +kernel⟩
-- slots: 0:_law_members_here 1:_law_group 2:_law_history 3:_law_known 4:_law_lists_here 5:_law_transit 6:_law_member
abbrev s_l_call_right : Stmt := topS 27
theorem sc_l_call_right : FnScope ["_law_bag_here", "_law_members_here", "_law_group", "_law_history", "_law_known", "_law_style", "_law_lists_here", "_law_waiting", "_law_member", "_law_entry", "_law_more"] ["_law_bag_here", "_law_members_here", "_law_group", "_law_history", "_law_known", "_law_style"] (defScope s_l_call_right) := ⟨rfl, rfl, rfl, by decide +kernel, rfl, by decide +kernel, by decide +kernel⟩
-- slots: 0:_law_bag_here 1:_law_members_here 2:_law_group 3:_law_history 4:_law_known 5:_law_style 6:_law_lists_here 7:_law_waiting 8:_law_member 9:_law_entry 10:_law_more
abbrev s_law : Stmt := topS 28
theorem sc_law : FnScope ["_law_script", "_law_bag_here", "_law_members_here", "_law_first", "_law_style", "_law_group", "_law_history", "_law_known", "_law_k", "_law_turn", "_law_lists_here", "_law_many", "_law_member"] ["_law_script"] (defScope s_law) := ⟨rfl, rfl, rfl, by decide +kernel, rfl, by decide +kernel, by decide +kernel⟩
-- slots: 0:_law_script 1:_law_bag_here 2:_law_members_here 3:_law_first 4:_law_style 5:_law_group 6:_law_history 7:_law_known 8:_law_k 9:_law_turn 10:_law_lists_here 11:_law_many 12:_law_member
/-- what the top has left, by names -/
structure Txt (K : PySem.W.Frag) (mg : Str → Option Value) where
  f_is_name : Addr
  fd_is_name : FuncData
  F_is_name : Fun K "is_name" "is_name" s_is_name f_is_name fd_is_name
  b_is_name : Binds K fd_is_name ["value"] []
  g_is_name : mg "is_name" = some (.ref f_is_name)
  f_is_members : Addr
  fd_is_members : FuncData
  F_is_members : Fun K "is_members" "is_members" s_is_members f_is_members fd_is_members
  b_is_members : Binds K fd_is_members ["value"] []
  g_is_members : mg "is_members" = some (.ref f_is_members)
  f_need_members : Addr
  fd_need_members : FuncData
  F_need_members : Fun K "need_members" "need_members" s_need_members f_need_members fd_need_members
  b_need_members : Binds K fd_need_members ["members"] []
  g_need_members : mg "need_members" = some (.ref f_need_members)
  f_need_one_of : Addr
  fd_need_one_of : FuncData
  F_need_one_of : Fun K "need_one_of" "need_one_of" s_need_one_of f_need_one_of fd_need_one_of
  b_need_one_of : Binds K fd_need_one_of ["members", "value"] []
  g_need_one_of : mg "need_one_of" = some (.ref f_need_one_of)
  f_Auditor_init : Addr
  fd_Auditor_init : FuncData
  F_Auditor_init : Fun K "__init__" "Auditor.__init__" s_Auditor_init f_Auditor_init fd_Auditor_init
  b_Auditor_init : Binds K fd_Auditor_init ["self", "members", "first"] []
  f_Auditor_ring_by : Addr
  fd_Auditor_ring_by : FuncData
  F_Auditor_ring_by : Fun K "ring_by" "Auditor.ring_by" s_Auditor_ring_by f_Auditor_ring_by fd_Auditor_ring_by
  b_Auditor_ring_by : Binds K fd_Auditor_ring_by ["self", "member", "giver"] []
  f_Auditor_receive : Addr
  fd_Auditor_receive : FuncData
  F_Auditor_receive : Fun K "receive" "Auditor.receive" s_Auditor_receive f_Auditor_receive fd_Auditor_receive
  b_Auditor_receive : Binds K fd_Auditor_receive ["self", "member", "giver"] []
  f_Auditor_received_lists : Addr
  fd_Auditor_received_lists : FuncData
  F_Auditor_received_lists : Fun K "received_lists" "Auditor.received_lists" s_Auditor_received_lists f_Auditor_received_lists fd_Auditor_received_lists
  b_Auditor_received_lists : Binds K fd_Auditor_received_lists ["self"] []
  f_Group_init : Addr
  fd_Group_init : FuncData
  F_Group_init : Fun K "__init__" "Group.__init__" s_Group_init f_Group_init fd_Group_init
  b_Group_init : Binds K fd_Group_init ["self", "members", "first"] []
  f_Group_hand_to : Addr
  fd_Group_hand_to : FuncData
  F_Group_hand_to : Fun K "hand_to" "Group.hand_to" s_Group_hand_to f_Group_hand_to fd_Group_hand_to
  b_Group_hand_to : Binds K fd_Group_hand_to ["self", "member"] []
  f_Group_holder_now : Addr
  fd_Group_holder_now : FuncData
  F_Group_holder_now : Fun K "holder_now" "Group.holder_now" s_Group_holder_now f_Group_holder_now fd_Group_holder_now
  b_Group_holder_now : Binds K fd_Group_holder_now ["self"] []
  f_Group_history_so_far : Addr
  fd_Group_history_so_far : FuncData
  F_Group_history_so_far : Fun K "history_so_far" "Group.history_so_far" s_Group_history_so_far f_Group_history_so_far fd_Group_history_so_far
  b_Group_history_so_far : Binds K fd_Group_history_so_far ["self"] []
  f_Group_lists_so_far : Addr
  fd_Group_lists_so_far : FuncData
  F_Group_lists_so_far : Fun K "lists_so_far" "Group.lists_so_far" s_Group_lists_so_far f_Group_lists_so_far fd_Group_lists_so_far
  b_Group_lists_so_far : Binds K fd_Group_lists_so_far ["self"] []
  f_Group_waiting : Addr
  fd_Group_waiting : FuncData
  F_Group_waiting : Fun K "waiting" "Group.waiting" s_Group_waiting f_Group_waiting fd_Group_waiting
  b_Group_waiting : Binds K fd_Group_waiting ["self", "member"] []
  f_Group_deliver_from : Addr
  fd_Group_deliver_from : FuncData
  F_Group_deliver_from : Fun K "deliver_from" "Group.deliver_from" s_Group_deliver_from f_Group_deliver_from fd_Group_deliver_from
  b_Group_deliver_from : Binds K fd_Group_deliver_from ["self", "member"] []
  f_Group_deliver_all : Addr
  fd_Group_deliver_all : FuncData
  F_Group_deliver_all : Fun K "deliver_all" "Group.deliver_all" s_Group_deliver_all f_Group_deliver_all fd_Group_deliver_all
  b_Group_deliver_all : Binds K fd_Group_deliver_all ["self"] []
  f_Group_reports_in_transit : Addr
  fd_Group_reports_in_transit : FuncData
  F_Group_reports_in_transit : Fun K "reports_in_transit" "Group.reports_in_transit" s_Group_reports_in_transit f_Group_reports_in_transit fd_Group_reports_in_transit
  b_Group_reports_in_transit : Binds K fd_Group_reports_in_transit ["self"] []
  f_Group_known_so_far : Addr
  fd_Group_known_so_far : FuncData
  F_Group_known_so_far : Fun K "known_so_far" "Group.known_so_far" s_Group_known_so_far f_Group_known_so_far fd_Group_known_so_far
  b_Group_known_so_far : Binds K fd_Group_known_so_far ["self"] []
  f_l_bag : Addr
  fd_l_bag : FuncData
  F_l_bag : Fun K "_law_bag" "_law_bag" s_l_bag f_l_bag fd_l_bag
  b_l_bag : Binds K fd_l_bag ["_law_script", "_law_k"] []
  g_l_bag : mg "_law_bag" = some (.ref f_l_bag)
  f_l_take : Addr
  fd_l_take : FuncData
  F_l_take : Fun K "_law_take" "_law_take" s_l_take f_l_take fd_l_take
  b_l_take : Binds K fd_l_take ["_law_bag_here", "_law_many"] []
  g_l_take : mg "_law_take" = some (.ref f_l_take)
  f_l_pick : Addr
  fd_l_pick : FuncData
  F_l_pick : Fun K "_law_pick" "_law_pick" s_l_pick f_l_pick fd_l_pick
  b_l_pick : Binds K fd_l_pick ["_law_bag_here", "_law_values"] []
  g_l_pick : mg "_law_pick" = some (.ref f_l_pick)
  f_l_members : Addr
  fd_l_members : FuncData
  F_l_members : Fun K "_law_members" "_law_members" s_l_members f_l_members fd_l_members
  b_l_members : Binds K fd_l_members ["_law_bag_here", "_law_least", "_law_most"] []
  g_l_members : mg "_law_members" = some (.ref f_l_members)
  f_l_walk : Addr
  fd_l_walk : FuncData
  F_l_walk : Fun K "_law_walk" "_law_walk" s_l_walk f_l_walk fd_l_walk
  b_l_walk : Binds K fd_l_walk ["_law_bag_here", "_law_members_here", "_law_history", "_law_many", "_law_style"] []
  g_l_walk : mg "_law_walk" = some (.ref f_l_walk)
  f_l_lists : Addr
  fd_l_lists : FuncData
  F_l_lists : Fun K "_law_lists" "_law_lists" s_l_lists f_l_lists fd_l_lists
  b_l_lists : Binds K fd_l_lists ["_law_members_here", "_law_history"] []
  g_l_lists : mg "_law_lists" = some (.ref f_l_lists)
  f_l_equal : Addr
  fd_l_equal : FuncData
  F_l_equal : Fun K "_law_equal" "_law_equal" s_l_equal f_l_equal fd_l_equal
  b_l_equal : Binds K fd_l_equal ["_law_members_here", "_law_group", "_law_history", "_law_known"] []
  g_l_equal : mg "_law_equal" = some (.ref f_l_equal)
  f_l_call_right : Addr
  fd_l_call_right : FuncData
  F_l_call_right : Fun K "_law_call_right" "_law_call_right" s_l_call_right f_l_call_right fd_l_call_right
  b_l_call_right : Binds K fd_l_call_right ["_law_bag_here", "_law_members_here", "_law_group", "_law_history", "_law_known", "_law_style"] []
  g_l_call_right : mg "_law_call_right" = some (.ref f_l_call_right)
  f_law : Addr
  fd_law : FuncData
  F_law : Fun K "law" "law" s_law f_law fd_law
  b_law : Binds K fd_law ["_law_script"] []
  g_law : mg "law" = some (.ref f_law)
  C_Auditor : Addr
  cl_Auditor : Cls K C_Auditor
  g_Auditor : mg "Auditor" = some (.ref C_Auditor)
  n_Auditor_members : NoAttr K C_Auditor "members"
  n_Auditor_first : NoAttr K C_Auditor "first"
  n_Auditor_known : NoAttr K C_Auditor "known"
  n_Auditor_received : NoAttr K C_Auditor "received"
  mk_Auditor : Mk K C_Auditor f_Auditor_init
  m_Auditor_ring_by : Meth K C_Auditor "ring_by" f_Auditor_ring_by
  m_Auditor_receive : Meth K C_Auditor "receive" f_Auditor_receive
  m_Auditor_received_lists : Meth K C_Auditor "received_lists" f_Auditor_received_lists
  C_Group : Addr
  cl_Group : Cls K C_Group
  g_Group : mg "Group" = some (.ref C_Group)
  n_Group_auditor : NoAttr K C_Group "auditor"
  n_Group_members : NoAttr K C_Group "members"
  n_Group_holders : NoAttr K C_Group "holders"
  n_Group_lists : NoAttr K C_Group "lists"
  mk_Group : Mk K C_Group f_Group_init
  m_Group_hand_to : Meth K C_Group "hand_to" f_Group_hand_to
  m_Group_holder_now : Meth K C_Group "holder_now" f_Group_holder_now
  m_Group_history_so_far : Meth K C_Group "history_so_far" f_Group_history_so_far
  m_Group_lists_so_far : Meth K C_Group "lists_so_far" f_Group_lists_so_far
  m_Group_waiting : Meth K C_Group "waiting" f_Group_waiting
  m_Group_deliver_from : Meth K C_Group "deliver_from" f_Group_deliver_from
  m_Group_deliver_all : Meth K C_Group "deliver_all" f_Group_deliver_all
  m_Group_reports_in_transit : Meth K C_Group "reports_in_transit" f_Group_reports_in_transit
  m_Group_known_so_far : Meth K C_Group "known_so_far" f_Group_known_so_far
  t_LETTERS : Tok
  g_LETTERS : mg "LETTERS" = some (.str "abcdefghijklmnopqrstuvwxyz" t_LETTERS)
  t_MAX_LETTERS : Tok
  g_MAX_LETTERS : mg "MAX_LETTERS" = some (.int 8 t_MAX_LETTERS)
  t_MAX_MEMBERS : Tok
  g_MAX_MEMBERS : mg "MAX_MEMBERS" = some (.int 12 t_MAX_MEMBERS)
  z_all : mg "all" = none
  z_dict : mg "dict" = none
  z_int : mg "int" = none
  z_isinstance : mg "isinstance" = none
  z_len : mg "len" = none
  z_list : mg "list" = none
  z_max : mg "max" = none
  z_min : mg "min" = none
  z_range : mg "range" = none
  z_sorted : mg "sorted" = none
  z_str : mg "str" = none
  z_sum : mg "sum" = none
  z_zip : mg "zip" = none
/-! ### names and members -/
def lettersL : List Nat := ("abcdefghijklmnopqrstuvwxyz" : Str).cps.toList
/-- is_name's answer -/
def nameB (z : Str) : Bool := decide (1 ≤ z.length) && decide (z.length ≤ 8) && z.cps.toList.all fun c => decide (c ∈ lettersL)
def spIsName : Sp := fun vs H Q _ => ∃ z : Str, vs = [.str z] ∧ z.length ≤ 100000 ∧ ∀ H', Same H H' → Q (.bl (nameB z)) H'
section
variable {P : Program} {w : World} {K : PySem.W.Frag} {mg : Str → Option Value} {base : Heap} (T : Txt K mg)
theorem ok_is_name : FnOk P w K mg base CX0 1 T.f_is_name T.fd_is_name ["value"] spIsName := by
  refine T.F_is_name.ok sc_is_name (fun vs H Q E h => ?_) (fun cdv A outer s H vs Q E hr h => ?_)
  · obtain ⟨z, rfl, _⟩ := h
    rfl
  · obtain ⟨z, rfl, hl, q⟩ := h
    refine ⟨_, pss_cons (ps_if (PW.pt (pw_or (pt_not (pt_val (pe_callB call_isi (by rfl) T.z_isinstance (by decide +kernel) (pa_cons (pv 0) (pa_cons (pe_bltn (v := .ty "str") (by rfl) T.z_str (by decide +kernel) rfl) pa_nil)))))
        (pw_or1 (pt_not (pt_chain op_le op_le pe_int (pe_callB call_len (by rfl) T.z_len PySem.boot_len (pa_cons (pv 0) pa_nil)) (pe_glob (v := .int 8) (by rfl) T.g_MAX_LETTERS ⟨_, rfl⟩)))))) (pss_one (ps_ret pe_bl)) pss_nil)
      (pss_one (ps_ret (pe_callB (cr_all rfl) (by rfl) T.z_all (by decide +kernel) (pa_cons
        (pe_lc (own := [("letter", 1)]) (g := gName 1) (tt := tYes) rfl sc_is_name.nd (pi_str (pv 0)) (blkOk_by (N := ["value", "letter"]) (sc := defScope s_is_name) (by decide +kernel)) (fun _ _ _ _ _ => pg_name (i := 1) sc_is_name.nd rfl (.inl rfl)) (fun _ _ _ _ _ => pts_nil)
          (fun _ _ _ _ _ => pe_cmpR op_in_sign (pv 1) (pe_glob (v := .str "abcdefghijklmnopqrstuvwxyz") (by rfl) T.g_LETTERS ⟨_, rfl⟩) rfl)) pa_nil)))), ?_⟩
    refine ⟨_, rfl, .str z, .ty "str", .type "str", .type "str", true, rfl, .ty _, .base (.str z), kit_ty (by decide +kernel), true, rfl, iteF ?_⟩
    refine ⟨_, rfl, .str z, z.length, rfl, ⟨szl hl, rfl⟩, 1, z.length, rfl, rfl, decide ((1 : Int) ≤ z.length), rfl, ?_⟩
    refine ite2 (fun h1 => ?_) (fun h1 => ?_)
    · refine ⟨z.length, 8, rfl, rfl, _, rfl, ?_⟩
      by_cases h2 : (z.length : Int) ≤ 8
      · rw [decide_eq_true h2]
        refine iteF ?_
        -- the comprehension
        refine ⟨.str z, rfl, z, rfl, fun D nD => lc_it walk_str (fun i H1 => Same H H1 ∧ H1 D = some (.lst ((z.cps.toList.take i).map fun c => .bl (decide (c ∈ lettersL)))))
          ⟨same_new nD, by rw [upd_same]; rfl⟩ (fun _ _ _ _ => True.intro) ?_ ?_⟩
        · rintro i x H1 H2 hi ⟨s1, e1⟩ ⟨rfl, c, hc, rfl⟩
          refine ⟨rfl, .str ⟨#[c]⟩, rfl, c, _, rfl, rfl, _, e1, ?_, ?_⟩
          · rw [List.length_map, List.length_take]
            exact sz (Nat.le_trans (Nat.min_le_right _ _) (by rw [Array.length_toList]; exact hl))
          · refine ⟨same_mut s1 nD, ?_⟩
            have hc' : z.cps.toList[i]? = some c := by simpa using hc
            rw [upd_same, List.take_add_one, hc', List.map_append]
            rfl
        · rintro H1 ⟨s1, e1⟩
          refine ⟨D, z.cps.toList.map fun c => decide (c ∈ lettersL), rfl, sqL ?_, ?_⟩
          · rw [e1, List.map_map, List.take_of_length_le (by simp)]
            rfl
          · have e : nameB z = (z.cps.toList.map fun c => decide (c ∈ lettersL)).all id := by
              unfold nameB
              rw [decide_eq_true (show 1 ≤ z.length by have := of_decide_eq_true h1; omega), decide_eq_true (by omega), List.all_map]
              rfl
            rw [← e]
            exact q _ s1
      · rw [decide_eq_false h2]
        refine iteT ?_
        have e : nameB z = false := by
          unfold nameB
          rw [decide_eq_false (show ¬ z.length ≤ 8 by omega)]
          simp
        show Q (.bl false) H
        rw [← e]
        exact q _ (Same.refl _)
    · refine ⟨false, rfl, iteT ?_⟩
      have e : nameB z = false := by
        unfold nameB
        rw [decide_eq_false (show ¬ 1 ≤ z.length from fun z1 => h1 (decide_eq_true (by omega)))]
        simp
      show Q (.bl false) H
      rw [← e]
      exact q _ (Same.refl _)
end
/-! ### members -/
structure Members (ms : List Str) : Prop where
  lo : 1 ≤ ms.length
  hi : ms.length ≤ 12
  nm : ∀ m ∈ ms, nameB m = true
  asc : ∀ (i : Nat) (x y : Str), ms[i]? = some x → ms[i + 1]? = some y → x.cps.toList < y.cps.toList
  nd : ms.Nodup
theorem nameB_len {z : Str} (h : nameB z = true) : z.length ≤ 8 := by
  unfold nameB at h
  simp only [Bool.and_eq_true, decide_eq_true_eq] at h
  exact h.1.2
theorem letters_small : ∀ c ∈ lettersL, c < 1114112 := by decide +kernel
theorem nameB_ok {z : Str} (h : nameB z = true) : PyData.strOk z = true := by
  unfold nameB at h
  simp only [Bool.and_eq_true, decide_eq_true_eq] at h
  unfold PyData.strOk
  rw [← Array.all_toList]
  refine List.all_eq_true.mpr fun c hc => decide_eq_true ?_
  exact letters_small c (of_decide_eq_true (List.all_eq_true.mp h.2 c hc))
def spIsMembers : Sp := fun vs H Q _ => ∃ (a : Addr) (ms : List Str), vs = [.ref a] ∧ H a = some (.lst (sv ms)) ∧ Members ms ∧ ∀ H', Same H H' → Q (.bl true) H'
def spNeedMembers : Sp := fun vs H Q _ => ∃ (a : Addr) (ms : List Str), vs = [.ref a] ∧ H a = some (.lst (sv ms)) ∧ Members ms ∧ ∀ H', Same H H' → Q .non H'
def spNeedOneOf : Sp := fun vs H Q _ => ∃ (a : Addr) (ms : List Str) (m : Str), vs = [.ref a, .str m] ∧ H a = some (.lst (sv ms)) ∧ m ∈ ms ∧ Q .non H
section
variable {P : Program} {w : World} {K : PySem.W.Frag} {mg : Str → Option Value} {base : Heap} (T : Txt K mg)
theorem cut1 (xs : List V) : cutV xs (some 1) none = xs.drop 1 := by
  have h := HT.sIx_nat xs.length 0 1
  unfold cutV
  rw [show HT.sIx xs.length 0 (some 1) = min 1 xs.length from h, HT.sIx_none]
  cases xs with
  | nil => rfl
  | cons x r =>
    have e : min 1 (x :: r).length = 1 := by simp
    rw [e, List.take_of_length_le (by simp)]
theorem sv_drop (l : List Str) (n : Nat) : (sv l).drop n = sv (l.drop n) := List.map_drop.symm
theorem rep_snoc (i : Nat) : List.replicate (i + 1) (V.bl true) = List.replicate i (V.bl true) ++ [V.bl true] := List.replicate_succ'
theorem rep_bl (n : Nat) : List.replicate n (V.bl true) = (List.replicate n true).map V.bl := by simp
theorem ok_is_members : FnOk P w K mg base CX0 2 T.f_is_members T.fd_is_members ["value"] spIsMembers := by
  have G1 : FnOk P w K mg base CX0 1 T.f_is_name T.fd_is_name ["value"] spIsName := ok_is_name T
  refine T.F_is_members.ok sc_is_members (fun vs H Q E h => ?_) (fun cdv A outer s H vs Q E hr h => ?_)
  · obtain ⟨a, ms, rfl, _⟩ := h
    rfl
  · obtain ⟨a, ms, rfl, ha, M, q⟩ := h
    refine ⟨_, pss_cons (ps_if (PW.pt (pw_or (pt_not (pt_val (pe_callB call_isi (by rfl) T.z_isinstance (by decide +kernel) (pa_cons (pv 0) (pa_cons (pe_bltn (v := .ty "list") (by rfl) T.z_list (by decide +kernel) rfl) pa_nil)))))
        (pw_or1 (pt_not (pt_chain op_le op_le pe_int (pe_callB call_len (by rfl) T.z_len PySem.boot_len (pa_cons (pv 0) pa_nil)) (pe_glob (v := .int 12) (by rfl) T.g_MAX_MEMBERS ⟨_, rfl⟩)))))) (pss_one (ps_ret pe_bl)) pss_nil)
      (pss_cons (ps_if (pt_not (pt_val (pe_callB (cr_all rfl) (by rfl) T.z_all (by decide +kernel) (pa_cons
        (pe_lc (own := [("member", 1)]) (g := gName 1) (tt := tYes) rfl sc_is_members.nd (pi_list (pv 0)) (blkOk_by (N := ["value", "member", "one", "other"]) (sc := defScope s_is_members) (by decide +kernel)) (fun _ _ _ _ _ => pg_name (i := 1) sc_is_members.nd rfl (.inl rfl)) (fun _ _ _ _ _ => pts_nil)
          (fun _ _ _ _ _ => pe_call G1 hr (by rfl) T.g_is_name T.F_is_name.kp T.b_is_name .nil pass0 (pa_cons (pv 1) pa_nil))) pa_nil)))) (pss_one (ps_ret pe_bl)) pss_nil)
      (pss_one (ps_ret (pe_callB (cr_all rfl) (by rfl) T.z_all (by decide +kernel) (pa_cons
        (pe_lc (own := [("one", 2), ("other", 3)]) (g := gTup K 2 (gCons (gName 2) (gCons (gName 3) gNil))) (tt := tYes) rfl sc_is_members.nd (pi_zip (by rfl) T.z_zip (pa_cons (pv 0) (pa_cons (pe_slice sl_list (pv 0) (po_some pe_int) po_none) pa_nil)))
          (blkOk_by (N := ["value", "member", "one", "other"]) (sc := defScope s_is_members) (by decide +kernel))
          (fun _ _ _ _ _ => pg_tup rfl (pgs_cons (pg_name (i := 2) sc_is_members.nd rfl (.inl rfl)) (pgs_cons (pg_name (i := 3) sc_is_members.nd rfl (.inl rfl)) pgs_nil))) (fun _ _ _ _ _ => pts_nil)
          (fun _ _ _ _ _ => pe_cmpR op_lt_str (pv 2) (pv 3) (nomark _))) pa_nil))))), ?_⟩
    -- the first test
    refine ⟨_, rfl, .ref a, .ty "list", .type "list", .type "list", true, rfl, .ty _, .base (.lst ha), kit_ty (by decide +kernel), true, rfl, iteF ?_⟩
    refine ⟨_, rfl, .ref a, ms.length, rfl, .inl ⟨_, sqL ha, (List.length_map _).symm⟩, 1, ms.length, rfl, rfl, decide ((1 : Int) ≤ ms.length), rfl, ?_⟩
    have lo := M.lo
    have hi := M.hi
    rw [decide_eq_true (show (1 : Int) ≤ ms.length by omega)]
    refine iteT ⟨ms.length, 12, rfl, rfl, decide ((ms.length : Int) ≤ 12), rfl, ?_⟩
    rw [decide_eq_true (show (ms.length : Int) ≤ 12 by omega)]
    refine iteF ?_
    -- all the names
    refine ⟨_, rfl, a, rfl, ⟨_, sqL ha⟩, fun D nD => lc_it (walk_sv ms) (fun i H1 => Same H H1 ∧ H1 D = some (.lst (List.replicate i (.bl true))))
      ⟨same_new nD, by rw [upd_same]; rfl⟩ (fun i H1 _ p => p.1.seq (sqL ha)) ?_ ?_⟩
    · rintro i x H1 H2 hi ⟨s1, e1⟩ ⟨rfl, m, hm, rfl⟩
      have mm := List.mem_of_getElem? hm
      have hn := M.nm m mm
      refine ⟨rfl, .str m, rfl, m, rfl, Nat.le_trans (nameB_len hn) (by decide), fun H3 s3 => ⟨_, s3 _ _ e1, ?_, same_mut (s1.trans s3) nD, ?_⟩⟩
      · rw [List.length_replicate]
        exact sz (by omega)
      · rw [upd_same, hn, rep_snoc]
    · rintro H1 ⟨s1, e1⟩
      refine ⟨D, List.replicate ms.length true, rfl, sqL (by rw [e1]; simp), _, rfl, ?_⟩
      rw [show (List.replicate ms.length true).all id = true by simp]
      refine iteF ?_
      -- all in ascending order
      refine ⟨.ref a, rfl, .ref a, rfl, 1, rfl, a, sv ms, rfl, sqL (s1 _ _ ha), fun c nc => ?_⟩
      refine ⟨a, c, sv ms, cutV (sv ms) (some 1) none, rfl, sqL (same_new nc _ _ (s1 _ _ ha)), sqL upd_same, fun D2 nD2 => ?_⟩
      have nc2 : c ≠ D2 := fun z => by subst z; rw [upd_same] at nD2; cases nD2
      have s2 : Same H1 (upd H1 c (.lst (cutV (sv ms) (some 1) none))) := same_new nc
      refine lc_it (walk_zip (n := ms.length - 1) (xs := sv ms) (ys := sv (ms.drop 1)) (by simp)) (fun i H2 => Same H1 H2 ∧ H2 c = some (.lst (sv (ms.drop 1))) ∧ H2 D2 = some (.lst (List.replicate i (.bl true))))
        ⟨s2.trans (same_new nD2), ?_, by rw [upd_same]; rfl⟩ (fun i H2 _ p => ⟨sqL (p.1 _ _ (s1 _ _ ha)), sqL p.2.1⟩) ?_ ?_
      · rw [upd_ne nc2, upd_same, cut1, sv_drop]
      · rintro i x H2 H3 hi ⟨s3, ec, e2⟩ ⟨Tp, x1, x2, rfl, nT, rfl, f1, f2⟩
        obtain ⟨m1, g1, rfl⟩ := sv_get' f1
        obtain ⟨m2, g2, rfl⟩ := sv_get' f2
        have lt := M.asc i m1 m2 g1 (by rw [List.getElem?_drop, Nat.add_comm] at g2; exact g2)
        have nT2 : D2 ≠ Tp := ne_of_none e2 nT
        refine ⟨Tp, _, rfl, sqT upd_same, rfl, .str m1, [.str m2], rfl, .str m2, [], rfl, rfl, rfl, .str m1, rfl, .str m2, rfl, m1, m2, rfl, rfl, List.replicate i (.bl true), ?_, ?_, ?_, ?_, ?_⟩
        · rw [upd_ne nT2]
          exact e2
        · rw [List.length_replicate]
          exact sz (by omega)
        · exact same_mut (s3.trans (same_new nT)) (s2.free nD2)
        · rw [upd_ne nc2, upd_ne (ne_of_none ec nT)]
          exact ec
        · rw [upd_same, decide_eq_true lt, rep_snoc]
      · rintro H2 ⟨s3, ec, e2⟩
        refine ⟨D2, List.replicate (ms.length - 1) true, rfl, sqL (by rw [e2]; simp), ?_⟩
        rw [show (List.replicate (ms.length - 1) true).all id = true by simp]
        exact q _ (s1.trans s3)
theorem ok_need_members : FnOk P w K mg base CX0 3 T.f_need_members T.fd_need_members ["members"] spNeedMembers := by
  have G1 : FnOk P w K mg base CX0 2 T.f_is_members T.fd_is_members ["value"] spIsMembers := ok_is_members T
  refine T.F_need_members.ok sc_need_members (fun vs H Q E h => ?_) (fun cdv A outer s H vs Q E hr h => ?_)
  · obtain ⟨a, ms, rfl, _⟩ := h
    rfl
  · obtain ⟨a, ms, rfl, ha, M, q⟩ := h
    refine ⟨_, pss_one (ps_if (pt_not (pt_val (pe_call G1 hr (by rfl) T.g_is_members T.F_is_members.kp T.b_is_members .nil pass0 (pa_cons (pv 0) pa_nil)))) pss_never pss_nil), ?_⟩
    exact ⟨_, rfl, a, ms, rfl, ha, M, fun H' s' => ⟨true, rfl, iteF (q H' s')⟩⟩
theorem ok_need_one_of : FnOk P w K mg base CX0 1 T.f_need_one_of T.fd_need_one_of ["members", "value"] spNeedOneOf := by
  refine T.F_need_one_of.ok sc_need_one_of (fun vs H Q E h => ?_) (fun cdv A outer s H vs Q E hr h => ?_)
  · obtain ⟨a, ms, m, rfl, _⟩ := h
    rfl
  · obtain ⟨a, ms, m, rfl, ha, hm, q⟩ := h
    refine ⟨_, pss_one (ps_if (PW.pt (pw_or (pt_not (pt_val (pe_callB call_isi (by rfl) T.z_isinstance (by decide +kernel) (pa_cons (pv 1) (pa_cons (pe_bltn (v := .ty "str") (by rfl) T.z_str (by decide +kernel) rfl) pa_nil)))))
        (pw_or1 (pt_cmpR op_notIn_seq (pv 1) (pv 0) rfl)))) pss_never pss_nil), ?_⟩
    refine ⟨_, rfl, .str m, .ty "str", .type "str", .type "str", true, rfl, .ty _, .base (.str m), kit_ty (by decide +kernel), true, rfl, iteF ?_⟩
    refine ⟨_, rfl, _, rfl, a, sv ms, rfl, .inl (sqL ha), rfl, flat_sv ms, _, rfl, ?_⟩
    show if (!inV (V.str m) (sv ms)) = true then _ else _
    rw [inV_sv, decide_eq_true hm]
    exact iteF q
end
/-! ### the auditor and the group -/
def fsA (ms2 kd rc : Addr) (p : Str) : List (Str × V) := [("members", .ref ms2), ("first", .str p), ("known", .ref kd), ("received", .ref rc)]
def fsG (a ms3 hl ld : Addr) : List (Str × V) := [("auditor", .ref a), ("members", .ref ms3), ("holders", .ref hl), ("lists", .ref ld)]
section
variable (a b c d : Addr) (p : Str)
theorem fsA_put : putF "received" (.ref c) (putF "known" (.ref b) (putF "first" (.str p) (putF "members" (.ref a) []))) = fsA a b c p := by rfl
theorem fsA_members : (fsA a b c p).lookup ("members" : Str) = some (V.ref a) := by rfl
theorem fsA_first : (fsA a b c p).lookup ("first" : Str) = some (V.str p) := by rfl
theorem fsA_known : (fsA a b c p).lookup ("known" : Str) = some (V.ref b) := by rfl
theorem fsA_received : (fsA a b c p).lookup ("received" : Str) = some (V.ref c) := by rfl
theorem fsG_put : putF "lists" (.ref d) (putF "holders" (.ref c) (putF "members" (.ref b) (putF "auditor" (.ref a) []))) = fsG a b c d := by rfl
theorem fsG_auditor : (fsG a b c d).lookup ("auditor" : Str) = some (V.ref a) := by rfl
theorem fsG_members : (fsG a b c d).lookup ("members" : Str) = some (V.ref b) := by rfl
theorem fsG_holders : (fsG a b c d).lookup ("holders" : Str) = some (V.ref c) := by rfl
theorem fsG_lists : (fsG a b c d).lookup ("lists" : Str) = some (V.ref d) := by rfl
end
/-- where the group's objects stand: the group, its dict, the auditor, its dict, the lists of members, the holders, the received ones, the dicts, their lists -/
structure GA where
  g : Addr
  dg : Addr
  a : Addr
  da : Addr
  m2 : Addr
  m3 : Addr
  hl : Addr
  rc : Addr
  kd : Addr
  ld : Addr
  ka : Str → Addr
  la : Str → Addr
/-- the lists that change -/
def GA.wr (A : GA) (ms : List Str) : List Addr := A.hl :: A.rc :: (ms.map A.ka ++ ms.map A.la)
/-- an auditor: members, first, known lists f, received -/
structure AudAt (C : Addr) (H : Hp) (A : GA) (ms : List Str) (p : Str) (f : Str → List Str) (rc : List Str) : Prop where
  ob : H A.a = some (.ins C A.da (fsA A.m2 A.kd A.rc p))
  mem : H A.m2 = some (.lst (sv ms))
  kn : DL H A.kd ms A.ka f
  rcv : H A.rc = some (.lst (sv rc))
  inj : ∀ x ∈ ms, ∀ y ∈ ms, A.ka x = A.ka y → x = y
  n1 : ∀ m ∈ ms, A.ka m ≠ A.m2
  n2 : ∀ m ∈ ms, A.ka m ≠ A.rc
  n3 : A.rc ≠ A.m2
theorem AudAt.same {C : Addr} {H H' : Hp} {A : GA} {ms : List Str} {p : Str} {f : Str → List Str} {rc : List Str} (h : AudAt C H A ms p f rc) (s : Same H H') : AudAt C H' A ms p f rc :=
  ⟨s _ _ h.ob, s _ _ h.mem, h.kn.same s, s _ _ h.rcv, h.inj, h.n1, h.n2, h.n3⟩
structure GroupAt (CG CA : Addr) (H : Hp) (A : GA) (ms : List Str) (p : Str) (f l : Str → List Str) (h rc : List Str) : Prop where
  au : AudAt CA H A ms p f rc
  ob : H A.g = some (.ins CG A.dg (fsG A.a A.m3 A.hl A.ld))
  mem : H A.m3 = some (.lst (sv ms))
  hol : H A.hl = some (.lst (sv h))
  lst : DL H A.ld ms A.la l
  inj : ∀ x ∈ ms, ∀ y ∈ ms, A.la x = A.la y → x = y
  k1 : ∀ x ∈ ms, ∀ y ∈ ms, A.ka x ≠ A.la y
  k2 : ∀ m ∈ ms, A.ka m ≠ A.m3 ∧ A.ka m ≠ A.hl
  l1 : ∀ m ∈ ms, A.la m ≠ A.m2 ∧ A.la m ≠ A.m3 ∧ A.la m ≠ A.hl ∧ A.la m ≠ A.rc
  r1 : A.rc ≠ A.m3 ∧ A.rc ≠ A.hl ∧ A.hl ≠ A.m2 ∧ A.hl ≠ A.m3
/-- known first entries lead down to the first holder: no ring -/
def Down (ms : List Str) (p : Str) (f : Str → List Str) (rk : Str → Nat) : Prop := ∀ m ∈ ms, m ≠ p → ∀ g t, f m = g :: t → g ∈ ms ∧ rk g < rk m
def spRingBy (CA : Addr) : Sp := fun vs H Q _ => ∃ (A : GA) (ms : List Str) (p : Str) (f : Str → List Str) (rc : List Str) (m g : Str) (rk : Str → Nat), vs = [.ref A.a, .str m, .str g] ∧ AudAt CA H A ms p f rc ∧
  Members ms ∧ p ∈ ms ∧ m ∈ ms ∧ g ∈ ms ∧ (∀ x ∈ ms, ∀ y ∈ f x, y ∈ ms) ∧ Down ms p f rk ∧ (m ≠ p → f m = [] → rk g < rk m) ∧ ms.length ≤ 12 ∧ (∀ x ∈ ms, rk x ≤ 1000) ∧ ∀ H', Same H H' → Q .non H'
section
variable {P : Program} {w : World} {K : PySem.W.Frag} {mg : Str → Option Value} {base : Heap} (T : Txt K mg)
theorem ok_ring_by : FnOk P w K mg base CX0 1 T.f_Auditor_ring_by T.fd_Auditor_ring_by ["self", "member", "giver"] (spRingBy T.C_Auditor) := by
  refine T.F_Auditor_ring_by.ok sc_Auditor_ring_by (fun vs H Q E h => ?_) (fun cdv A outer s H vs Q E hr h => ?_)
  · obtain ⟨A, ms, p, f, rc, m, g, rk, rfl, _⟩ := h
    rfl
  · obtain ⟨A, ms, p, f, rc, m, g, rk, rfl, AU, M, hp, hm, hg, hmem, dn, hrk, hl, hb, q⟩ := h
    have hu := hu_of (k := 0) hr
    have nd := sc_Auditor_ring_by.nd
    have hu64 : Around.units _ + 64 < cLine := hr.units
    refine ⟨_, pss_cons (ps_if (PW.pt (pw_or (pt_cmpR op_eq (pv 1) (pe_fld (pv 0) rfl) (nomark _)) (pw_or1 (pt_cmpR (op_neD hu64) (pe_dget hu (pe_fld (pv 0) rfl) (pv 1) (fun _ _ => rfl)) (pe_lst pa_nil) (nomark _))))) (pss_one (ps_ret pe_non)) pss_nil)
      (pss_cons (ps_set (i := 3) nd rfl (.inl rfl) (pe_lst (pa_cons (pv 1) pa_nil)))
      (pss_cons (ps_set (i := 4) nd rfl (.inl rfl) (pv 2))
      (pss_cons (ps_while PassesOwn.never (PW.pt (pw_and (pt_cmpR op_notIn_seq (pv 4) (pe_tup (pa_cons (pe_fld (pv 0) rfl) (pa_cons (pv 1) pa_nil))) rfl)
          (pw_and1 (pt_cmpR (op_neD hu64) (pe_dget hu (pe_fld (pv 0) rfl) (pv 4) (fun _ _ => rfl)) (pe_lst pa_nil) (nomark _)))))
        (pss_cons (ps_expr (pe_bm PySem.F.plainAttrs_list PySem.F.slot_list_append PySem.F.type_list_append mt_append (pv 3) (pa_cons (pv 4) pa_nil)))
          (pss_one (ps_set (i := 4) nd rfl (.inl rfl) (pe_ix ix_list (pe_dget hu (pe_fld (pv 0) rfl) (pv 4) (fun _ _ => rfl)) pe_int (fun _ _ => rfl))))))
      (pss_one (ps_ret (pe_ifExp (pt_cmpR op_eq (pv 4) (pv 1) (nomark _)) (pv 3) pe_non)))))), ?_⟩
    refine ⟨.str m, rfl, .ref A.a, rfl, A.a, T.C_Auditor, A.da, _, .str p, rfl, AU.ob, T.cl_Auditor, T.n_Auditor_first, fsA_first .., rfl, _, rfl, ?_⟩
    refine ite2 (fun _ => iteT (q H (Same.refl H))) (fun hne => ?_)
    have hne' : m ≠ p := fun z => hne (decide_eq_true (by rw [z]))
    refine ⟨.ref A.a, rfl, A.a, T.C_Auditor, A.da, _, .ref A.kd, rfl, AU.ob, T.cl_Auditor, T.n_Auditor_known, fsA_known .., .str m, rfl, A.kd, .ref (A.ka m), rfl, AU.kn.get hm, Nat.zero_le _, fun e ne => ?_⟩
    have okm : ∀ x ∈ ms, ∀ y ∈ f x, PyData.strOk y = true := fun x hx y hy => nameB_ok (M.nm y (hmem x hx y hy))
    refine ⟨_, _, dp_strs (sqL (same_new ne _ _ (AU.kn.at_ m hm))), dp_strs (l := []) (sqL upd_same), shaped_strs (okm m hm), shaped_strs (fun _ z => by cases z), _, rfl, ?_⟩
    rw [eqv_strs]
    by_cases hf : f m = []
    · rw [decide_eq_true hf]
      refine iteF ?_
      have s1 : Same H (upd H e (.lst [])) := same_new ne
      refine ⟨.str m, rfl, (by show 1 ≤ sizeLine; decide), fun o no => ?_⟩
      refine ⟨.str g, rfl, fun n σ H1 => ∃ (x : Str) (xs : List Str), n = rk x ∧ σ = [some (.ref A.a), some (.str m), some (.str g), some (.ref o), some (.str x)] ∧ Same H H1 ∧ H1 o = some (.lst (sv xs)) ∧ x ∈ ms ∧ xs.length + rk x ≤ rk m ∧ 1 ≤ xs.length,
        ⟨rk g, g, [m], rfl, rfl, s1.trans (same_new no), by rw [upd_same]; rfl, hg, by have := hrk hne' hf; simp; omega, Nat.le_refl _⟩, ?_⟩
      rintro n σ H1 ⟨x, xs, rfl, rfl, s2, eo, hx, hlen, h1⟩
      have AU1 := AU.same s2
      have hxm : x ≠ m := fun z => by subst z; omega
      have no' : H o = none := s1.free no
      -- here not in (self.first, member)
      refine ⟨.str x, rfl, .ref A.a, rfl, A.a, T.C_Auditor, A.da, _, .str p, rfl, AU1.ob, T.cl_Auditor, T.n_Auditor_first, fsA_first .., .str m, rfl, (by show 2 ≤ sizeLine; decide), fun t nt => ?_⟩
      refine ⟨t, sv [p, m], rfl, .inr (sqT upd_same), rfl, rfl, _, rfl, ?_⟩
      rw [show (if true = true then !inV (V.str x) (sv [p, m]) else inV (V.str x) (sv [p, m])) = !decide (x ∈ [p, m]) by rw [inV_sv]; rfl]
      by_cases hxp : x = p
      · rw [decide_eq_true (by simp [hxp])]
        refine iteF (iteF ?_)
        refine ⟨.str x, rfl, .str m, rfl, rfl, _, rfl, ?_⟩
        rw [decide_eq_false (fun z => hxm (V.str.inj z))]
        exact iteF (q _ (s2.trans (same_new nt)))
      · rw [decide_eq_false (by simp [hxp, hxm])]
        refine iteT ?_
        have s3 : Same H1 (upd H1 t (.tup (sv [p, m]))) := same_new nt
        have AU3 := AU1.same s3
        refine ⟨.ref A.a, rfl, A.a, T.C_Auditor, A.da, _, .ref A.kd, rfl, AU3.ob, T.cl_Auditor, T.n_Auditor_known, fsA_known .., .str x, rfl, A.kd, .ref (A.ka x), rfl, AU3.kn.get hx, Nat.zero_le _, fun e2 ne2 => ?_⟩
        have s4 : Same (upd H1 t (.tup (sv [p, m]))) (upd (upd H1 t (.tup (sv [p, m]))) e2 (.lst [])) := same_new ne2
        have AU4 := AU3.same s4
        refine ⟨_, _, dp_strs (sqL (AU4.kn.at_ x hx)), dp_strs (l := []) (sqL upd_same), shaped_strs (okm x hx), shaped_strs (fun _ z => by cases z), _, rfl, ?_⟩
        rw [eqv_strs]
        by_cases hfx : f x = []
        · rw [decide_eq_true hfx]
          refine iteF ?_
          refine ⟨.str x, rfl, .str m, rfl, rfl, _, rfl, ?_⟩
          rw [decide_eq_false (fun z => hxm (V.str.inj z))]
          exact iteF (q _ (s2.trans (s3.trans s4)))
        · rw [decide_eq_false hfx]
          refine iteT ?_
          obtain ⟨y, r, hy⟩ : ∃ y r, f x = y :: r := by
            cases hc : f x with
            | nil => exact absurd hc hfx
            | cons y r => exact ⟨y, r, rfl⟩
          obtain ⟨ym, yr⟩ := dn x hx hxp y r hy
          have eo4 := s4 _ _ (s3 _ _ eo)
          have hb1 := hb m hm
          refine ⟨fun σ' H' => ∃ xs', σ' = [some (.ref A.a), some (.str m), some (.str g), some (.ref o), some (.str y)] ∧ Same H H' ∧ H' o = some (.lst (sv xs')) ∧ xs'.length + rk y ≤ rk m ∧ 1 ≤ xs'.length,
            fun σ' H' ⟨xs', e1, e2, e3, e4, e5⟩ => ⟨rk y, yr, y, xs', rfl, e1, e2, e3, ym, e4, e5⟩, ?_⟩
          refine ⟨.ref o, rfl, .inl ⟨rfl, _, sqL eo4⟩, .str x, rfl, o, sv xs, .str x, rfl, rfl, eo4, ?_, ?_⟩
          · rw [List.length_map]
            exact sz (by omega)
          have AU5 : AudAt T.C_Auditor (upd (upd (upd H1 t (.tup (sv [p, m]))) e2 (.lst [])) o (.lst (sv xs ++ [.str x]))) A ms p f rc := AU.same (same_mut (s2.trans (s3.trans s4)) no')
          refine ⟨.ref A.a, rfl, A.a, T.C_Auditor, A.da, _, .ref A.kd, rfl, AU5.ob, T.cl_Auditor, T.n_Auditor_known, fsA_known .., .str x, rfl, A.kd, .ref (A.ka x), rfl, AU5.kn.get hx, A.ka x, sv (f x), 0, .str y, rfl, rfl, sqL (AU5.kn.at_ x hx), ?_, ?_⟩
          · rw [hy]
            exact atI_nat (j := 0) rfl
          · exact ⟨xs ++ [x], rfl, same_mut (s2.trans (s3.trans s4)) no', by rw [upd_same]; simp, by simp; omega, by simp⟩
    · rw [decide_eq_false hf]
      exact iteT (q _ (same_new ne))
end
/-! ### the auditor's methods -/
def spReceive (CA : Addr) : Sp := fun vs H Q _ => ∃ (A : GA) (ms : List Str) (p : Str) (f : Str → List Str) (rc : List Str) (m g : Str) (rk : Str → Nat), vs = [.ref A.a, .str m, .str g] ∧ AudAt CA H A ms p f rc ∧
  Members ms ∧ p ∈ ms ∧ m ∈ ms ∧ g ∈ ms ∧ g ≠ m ∧ (∀ x ∈ ms, ∀ y ∈ f x, y ∈ ms) ∧ Down ms p f rk ∧ (m ≠ p → f m = [] → rk g < rk m) ∧ (∀ x ∈ ms, rk x ≤ 1000) ∧ (f m).length ≤ 1000 ∧ rc.length ≤ 1000 ∧
  ∀ H', Keep [A.rc, A.ka m] H H' → AudAt CA H' A ms p (put f m (f m ++ [g])) (rc ++ [m]) → Q .non H'
def spRecLists (CA : Addr) : Sp := fun vs H Q _ => ∃ (A : GA) (ms : List Str) (p : Str) (f : Str → List Str) (rc : List Str), vs = [.ref A.a] ∧ AudAt CA H A ms p f rc ∧ Members ms ∧
  ∀ H' d ad, Same H H' → DN H H' d ms ad f → Q (.ref d) H'
def spAudInit (CA : Addr) : Sp := fun vs H Q _ => ∃ (H0 : Hp) (x dx a : Addr) (ms : List Str) (p : Str), vs = [.ref x, .ref a, .str p] ∧ H0 x = none ∧ H0 dx = none ∧ Same H0 H ∧ H x = some (.ins CA dx []) ∧ H0 a = some (.lst (sv ms)) ∧ Members ms ∧ p ∈ ms ∧
  ∀ H' (A : GA), A.a = x → A.da = dx → Same H0 H' → AudAt CA H' A ms p (fun _ => []) [] → H0 A.m2 = none → H0 A.rc = none → H0 A.kd = none → (∀ m ∈ ms, H0 (A.ka m) = none) → Q .non H'
section
variable {P : Program} {w : World} {K : PySem.W.Frag} {mg : Str → Option Value} {base : Heap} (T : Txt K mg)
theorem ok_receive : FnOk P w K mg base CX0 2 T.f_Auditor_receive T.fd_Auditor_receive ["self", "member", "giver"] (spReceive T.C_Auditor) := by
  have G1 : FnOk P w K mg base CX0 1 T.f_need_one_of T.fd_need_one_of ["members", "value"] spNeedOneOf := ok_need_one_of T
  have G2 : FnOk P w K mg base CX0 1 T.f_Auditor_ring_by T.fd_Auditor_ring_by ["self", "member", "giver"] (spRingBy T.C_Auditor) := ok_ring_by T
  refine T.F_Auditor_receive.ok sc_Auditor_receive (fun vs H Q E h => ?_) (fun cdv A outer s H vs Q E hr h => ?_)
  · obtain ⟨A, ms, p, f, rc, m, g, rk, rfl, _⟩ := h
    rfl
  · obtain ⟨A, ms, p, f, rc, m, g, rk, rfl, AU, M, hp, hm, hg, hgm, hmem, dn, hrk, hb, hf1, hrc, q⟩ := h
    have hu := hu_of hr
    have nd := sc_Auditor_receive.nd
    refine ⟨_, pss_cons (ps_expr (pe_call G1 hr (by rfl) T.g_need_one_of T.F_need_one_of.kp T.b_need_one_of .nil pass0 (pa_cons (pe_fld (pv 0) rfl) (pa_cons (pv 1) pa_nil))))
      (pss_cons (ps_if (PW.pt (pw_or (pt_not (pt_val (pe_callB call_isi (by rfl) T.z_isinstance (by decide +kernel) (pa_cons (pv 2) (pa_cons (pe_bltn (v := .ty "str") (by rfl) T.z_str (by decide +kernel) rfl) pa_nil)))))
        (pw_or (pt_cmpR op_notIn_seq (pv 2) (pe_fld (pv 0) rfl) rfl) (pw_or1 (pt_cmpR op_eq (pv 2) (pv 1) (nomark _)))))) pss_never pss_nil)
      (pss_cons (ps_set (i := 3) nd rfl (.inl rfl) (pe_meth (pv 0) T.cl_Auditor T.m_Auditor_ring_by G2 hr T.b_Auditor_ring_by .nil pass0 (pa_cons (pv 1) (pa_cons (pv 2) pa_nil))))
      (pss_cons (ps_if (pt_cmpR op_notN (pv 3) pe_non (nomark _)) pss_never pss_nil)
      (pss_cons (ps_expr (pe_bm PySem.F.plainAttrs_list PySem.F.slot_list_append PySem.F.type_list_append mt_append (pe_dget hu (pe_fld (pv 0) rfl) (pv 1) (fun _ _ => rfl)) (pa_cons (pv 2) pa_nil)))
      (pss_one (ps_expr (pe_bm PySem.F.plainAttrs_list PySem.F.slot_list_append PySem.F.type_list_append mt_append (pe_fld (pv 0) rfl) (pa_cons (pv 1) pa_nil)))))))), ?_⟩
    refine ⟨.ref A.a, rfl, A.a, T.C_Auditor, A.da, _, .ref A.m2, rfl, AU.ob, T.cl_Auditor, T.n_Auditor_members, fsA_members .., .str m, rfl, A.m2, ms, m, rfl, AU.mem, hm, ?_⟩
    refine ⟨_, rfl, .str g, .ty "str", .type "str", .type "str", true, rfl, .ty _, .base (.str g), kit_ty (by decide +kernel), true, rfl, iteF ?_⟩
    refine ⟨.str g, rfl, .ref A.a, rfl, A.a, T.C_Auditor, A.da, _, .ref A.m2, rfl, AU.ob, T.cl_Auditor, T.n_Auditor_members, fsA_members .., A.m2, sv ms, rfl, .inl (sqL AU.mem), rfl, flat_sv ms, _, rfl, ?_⟩
    rw [show (if true = true then !inV (V.str g) (sv ms) else inV (V.str g) (sv ms)) = !decide (g ∈ ms) by rw [inV_sv]; rfl, decide_eq_true hg]
    refine iteF ⟨.str g, rfl, .str m, rfl, rfl, _, rfl, ?_⟩
    rw [decide_eq_false (fun z => hgm (V.str.inj z))]
    refine iteF ?_
    refine ⟨.ref A.a, rfl, A.a, A.da, _, rfl, AU.ob, rfl, .str m, rfl, .str g, rfl, A, ms, p, f, rc, m, g, rk, rfl, AU, M, hp, hm, hg, hmem, dn, hrk, M.hi, hb, fun H1 s1 => ?_⟩
    have AU1 := AU.same s1
    refine ⟨.non, rfl, rfl, _, rfl, iteF ?_⟩
    refine ⟨.ref A.a, rfl, A.a, T.C_Auditor, A.da, _, .ref A.kd, rfl, AU1.ob, T.cl_Auditor, T.n_Auditor_known, fsA_known .., .str m, rfl, A.kd, .ref (A.ka m), rfl, AU1.kn.get hm, .inl ⟨rfl, _, sqL (AU1.kn.at_ m hm)⟩, .str g, rfl,
      A.ka m, sv (f m), .str g, rfl, rfl, AU1.kn.at_ m hm, ?_, ?_⟩
    · rw [List.length_map]
      exact sz (by omega)
    have kne : A.a ≠ A.ka m := ne_of AU1.ob (AU1.kn.at_ m hm) (fun z => by cases z)
    have kd := AU1.kn.upd hm AU1.inj (x := f m ++ [g])
    have ob2 : (upd H1 (A.ka m) (.lst (sv (f m) ++ [V.str g]))) A.a = some (.ins T.C_Auditor A.da (fsA A.m2 A.kd A.rc p)) := by rw [upd_ne kne]; exact AU1.ob
    have rc2 : (upd H1 (A.ka m) (.lst (sv (f m) ++ [V.str g]))) A.rc = some (.lst (sv rc)) := by rw [upd_ne (Ne.symm (AU.n2 m hm))]; exact AU1.rcv
    refine ⟨.ref A.a, rfl, A.a, T.C_Auditor, A.da, _, .ref A.rc, rfl, ob2, T.cl_Auditor, T.n_Auditor_received, fsA_received .., .inl ⟨rfl, _, sqL rc2⟩, .str m, rfl, A.rc, sv rc, .str m, rfl, rfl, rc2, ?_, ?_⟩
    · rw [List.length_map]
      exact sz (by omega)
    have e1 : sv (f m) ++ [V.str g] = sv (f m ++ [g]) := by simp
    have e2 : sv rc ++ [V.str m] = sv (rc ++ [m]) := by simp
    rw [e1] at ob2 ⊢
    rw [e2]
    refine q _ (Keep.trans (Keep.of_same s1) ((keep_upd (by simp)).trans (keep_upd (by simp)))) ⟨?_, ?_, ?_, ?_, AU.inj, AU.n1, AU.n2, AU.n3⟩
    · rw [upd_ne (ne_of AU1.ob AU1.rcv (fun z => by cases z))]
      exact ob2
    · rw [upd_ne (Ne.symm AU.n3), upd_ne (Ne.symm (AU.n1 m hm))]
      exact AU1.mem
    · refine DL.keep kd (keep_upd (W := [A.rc]) (by simp)) ?_ fun x hx => by simpa using AU.n2 x hx
      have : A.kd ≠ A.rc := ne_of AU1.kn.dict AU1.rcv (fun z => by cases z)
      simpa using this
    · rw [upd_same]
/-- {m: list(d[m]) for m in ms} as a value: the reading's loop -/
theorem ok_received_lists : FnOk P w K mg base CX0 1 T.f_Auditor_received_lists T.fd_Auditor_received_lists ["self"] (spRecLists T.C_Auditor) := by
  refine T.F_Auditor_received_lists.ok sc_Auditor_received_lists (fun vs H Q E h => ?_) (fun cdv A outer s H vs Q E hr h => ?_)
  · obtain ⟨A, ms, p, f, rc, rfl, _⟩ := h
    rfl
  · obtain ⟨A, ms, p, f, rc, rfl, AU, M, q⟩ := h
    have hu := hu_of (k := 0) hr
    have nd := sc_Auditor_received_lists.nd
    refine ⟨_, pss_one (ps_ret (pe_dc (own := [("member", 1)]) (g := gName 1) (tt := tYes) (tv := tCB (rListOf K) (tCons (tDGet (tFld K (tVar 0) "known") (tVar 1)) tNil)) rfl nd (pi_list (pe_fld (pv 0) rfl)) (blkOk_by (N := ["self", "member"]) (sc := defScope s_Auditor_received_lists) (by decide +kernel))
      (fun _ _ _ _ _ => pg_name (i := 1) nd rfl (.inl rfl)) (fun _ _ _ _ _ => pts_nil) (fun _ _ _ _ _ => pv 1)
      (fun _ _ _ _ _ => pe_callTy call_listK (by rfl) T.z_list (by decide +kernel) (pa_cons (pe_dget hu (pe_fld (pv 0) rfl) (pv 1) (fun _ _ => rfl)) pa_nil)))), ?_⟩
    refine ⟨.ref A.a, rfl, A.a, T.C_Auditor, A.da, _, .ref A.m2, rfl, AU.ob, T.cl_Auditor, T.n_Auditor_members, fsA_members .., A.m2, rfl, ⟨_, sqL AU.mem⟩, fun D nD => dc_it (walk_sv ms) (fun i H1 => Same H H1 ∧ ∃ ad, DN H H1 D (ms.take i) ad f)
      ⟨same_new nD, A.ka, .nil nD upd_same⟩ (fun i H1 _ p => sqL (p.1 _ _ AU.mem)) ?_ ?_⟩
    · rintro i x H1 H2 hi ⟨s1, ad, dn⟩ ⟨rfl, m, hm, rfl⟩
      have mm := List.mem_of_getElem? hm
      have AU1 := AU.same s1
      refine ⟨rfl, .str m, rfl, .ref A.a, rfl, A.a, T.C_Auditor, A.da, _, .ref A.kd, rfl, AU1.ob, T.cl_Auditor, T.n_Auditor_known, fsA_known .., .str m, rfl, A.kd, .ref (A.ka m), rfl, AU1.kn.get mm,
        A.ka m, sv (f m), rfl, .inl (sqL (AU1.kn.at_ m mm)), fun l nl => ⟨mkv (ms.take i) ad, Sum.inr m, rfl, ?_, ?_, ?_, pad ad m l, ?_⟩⟩
      · rw [upd_ne (ne_of_none dn.dl.dict nl)]
        exact dn.dl.dict
      · rw [mkd_len, List.length_take]
        exact sz (by have := M.hi; omega)
      · exact same_mut (s1.trans (same_new nl)) dn.d0
      · rw [take_snoc hm]
        exact dn.snoc s1 (not_take M.nd hm) (same_new nl) nl upd_same
    · rintro H1 ⟨s1, ad, dn⟩
      rw [List.take_of_length_le (Nat.le_refl _)] at dn
      exact q _ _ _ s1 dn
end
/-! ### making them -/
def spAudInit2 (CA : Addr) : Sp := fun vs H Q _ => ∃ (H0 : Hp) (x dx a : Addr) (ms : List Str) (p : Str), vs = [.ref x, .ref a, .str p] ∧ H0 x = none ∧ Same H0 H ∧ H x = some (.ins CA dx []) ∧ H0 a = some (.lst (sv ms)) ∧ Members ms ∧ p ∈ ms ∧
  ∀ (H' : Hp) (m2 rc kd : Addr) (ka : Str → Addr), Same H0 H' → (∀ A : GA, A.a = x → A.da = dx → A.m2 = m2 → A.rc = rc → A.kd = kd → A.ka = ka → AudAt CA H' A ms p (fun _ => []) []) →
    H0 m2 = none → H0 rc = none → H0 kd = none → (∀ m ∈ ms, H0 (ka m) = none) → Q .non H'
def spGroupInit (CG CA : Addr) : Sp := fun vs H Q _ => ∃ (H0 : Hp) (x dx a : Addr) (ms : List Str) (p : Str), vs = [.ref x, .ref a, .str p] ∧ H0 x = none ∧ Same H0 H ∧ H x = some (.ins CG dx []) ∧ H0 a = some (.lst (sv ms)) ∧ Members ms ∧ p ∈ ms ∧
  ∀ (H' : Hp) (A : GA), Same H0 H' → A.g = x → GroupAt CG CA H' A ms p (fun _ => []) (fun _ => []) [p] [] → (∀ b ∈ A.g :: A.a :: A.m2 :: A.m3 :: A.kd :: A.ld :: A.wr ms, H0 b = none) → Q .non H'
section
variable {P : Program} {w : World} {K : PySem.W.Frag} {mg : Str → Option Value} {base : Heap} (T : Txt K mg)
/-- behind H0 the object at x alone may have changed -/
theorem same_ins {H0 H : Hp} {x : Addr} {o : HO} (s : Same H0 H) (h : H0 x = none) : Same H0 (upd H x o) := same_mut s h
theorem ok_aud_init : FnOk P w K mg base CX0 4 T.f_Auditor_init T.fd_Auditor_init ["self", "members", "first"] (spAudInit2 T.C_Auditor) := by
  have G1 : FnOk P w K mg base CX0 1 T.f_need_one_of T.fd_need_one_of ["members", "value"] spNeedOneOf := ok_need_one_of T
  have G3 : FnOk P w K mg base CX0 3 T.f_need_members T.fd_need_members ["members"] spNeedMembers := ok_need_members T
  refine T.F_Auditor_init.ok sc_Auditor_init (fun vs H Q E h => ?_) (fun cdv A outer s H vs Q E hr h => ?_)
  · obtain ⟨H0, x, dx, a, ms, p, rfl, _⟩ := h
    rfl
  · obtain ⟨H0, x, dx, a, ms, p, rfl, nx, s0, hx, ha, M, hp, q⟩ := h
    have nd := sc_Auditor_init.nd
    have hr1 : Room 1 _ := hr.mono (by decide)
    refine ⟨_, pss_cons (ps_expr (pe_call G3 hr (by rfl) T.g_need_members T.F_need_members.kp T.b_need_members .nil pass0 (pa_cons (pv 1) pa_nil)))
      (pss_cons (ps_expr (pe_call G1 hr1 (by rfl) T.g_need_one_of T.F_need_one_of.kp T.b_need_one_of .nil pass0 (pa_cons (pv 1) (pa_cons (pv 2) pa_nil))))
      (pss_cons (ps_fld (pv 0) (pe_callTy call_listK (by rfl) T.z_list (by decide +kernel) (pa_cons (pv 1) pa_nil)) rfl)
      (pss_cons (ps_fld (pv 0) (pv 2) rfl)
      (pss_cons (ps_fld (pv 0) (pe_dc (own := [("member", 3)]) (g := gName 3) (tt := tYes) rfl nd (pi_list (pv 1)) (blkOk_by (N := ["self", "members", "first", "member"]) (sc := defScope s_Auditor_init) (by decide +kernel))
        (fun _ _ _ _ _ => pg_name (i := 3) nd rfl (.inl rfl)) (fun _ _ _ _ _ => pts_nil) (fun _ _ _ _ _ => pv 3) (fun _ _ _ _ _ => pe_lst pa_nil)) rfl)
      (pss_one (ps_fld (pv 0) (pe_lst pa_nil) rfl)))))), ?_⟩
    refine ⟨.ref a, rfl, a, ms, rfl, s0 _ _ ha, M, fun H1 s1 => ?_⟩
    have s01 := s0.trans s1
    refine ⟨.ref a, rfl, .str p, rfl, a, ms, p, rfl, s01 _ _ ha, hp, ?_⟩
    refine ⟨.ref a, rfl, a, sv ms, rfl, .inl (sqL (s01 _ _ ha)), fun l nl => ?_⟩
    have hx1 := s1 _ _ hx
    have nxl : x ≠ l := ne_of_none hx1 nl
    refine ⟨.ref x, rfl, x, T.C_Auditor, dx, [], rfl, (by rw [upd_ne nxl]; exact hx1), T.cl_Auditor, T.n_Auditor_members, (by decide), ?_⟩
    refine ⟨.str p, rfl, .ref x, rfl, x, T.C_Auditor, dx, _, rfl, upd_same, T.cl_Auditor, T.n_Auditor_first, (by show 1 < 1000; decide), ?_⟩
    rw [upd_upd]
    generalize hf1 : putF ("first" : Str) (V.str p) (putF ("members" : Str) (V.ref l) []) = fs1
    generalize hH4 : upd (upd H1 l (.lst (sv ms))) x (.ins T.C_Auditor dx fs1) = H4
    have s04 : Same H0 H4 := by rw [← hH4]; exact same_mut (s01.trans (same_new nl)) nx
    have l4 : H4 l = some (.lst (sv ms)) := by rw [← hH4, upd_ne (Ne.symm nxl), upd_same]
    have x4 : H4 x = some (.ins T.C_Auditor dx fs1) := by rw [← hH4, upd_same]
    refine ⟨.ref a, rfl, a, rfl, ⟨_, sqL (s04 _ _ ha)⟩, fun D nD => dc_it (walk_sv ms) (fun i H5 => Same H4 H5 ∧ ∃ ad, DN H4 H5 D (ms.take i) ad (fun _ => []))
      ⟨same_new nD, fun _ => x, .nil nD upd_same⟩ (fun i H5 _ pp => sqL (pp.1 _ _ (s04 _ _ ha))) ?_ ?_⟩
    · rintro i y H5 H6 hi ⟨s5, ad, dn⟩ ⟨rfl, m, hm, rfl⟩
      refine ⟨rfl, .str m, rfl, Nat.zero_le _, fun l2 nl2 => ⟨mkv (ms.take i) ad, Sum.inr m, rfl, ?_, ?_, ?_, pad ad m l2, ?_⟩⟩
      · rw [upd_ne (ne_of_none dn.dl.dict nl2)]
        exact dn.dl.dict
      · rw [mkd_len, List.length_take]
        exact sz (by have := M.hi; omega)
      · exact same_mut (s5.trans (same_new nl2)) dn.d0
      · rw [take_snoc hm]
        exact dn.snoc s5 (not_take M.nd hm) (same_new nl2) nl2 upd_same
    · rintro H5 ⟨s5, ad, dn⟩
      rw [List.take_of_length_le (Nat.le_refl _)] at dn
      have x5 := s5 _ _ x4
      refine ⟨.ref x, rfl, x, T.C_Auditor, dx, fs1, rfl, x5, T.cl_Auditor, T.n_Auditor_known, (by rw [← hf1]; show 2 < 1000; decide), ?_⟩
      refine ⟨Nat.zero_le _, fun r nr => ?_⟩
      have nxr : x ≠ r := fun z => by subst z; rw [upd_same] at nr; cases nr
      have nr5 : H5 r = none := by rw [upd_ne (Ne.symm nxr)] at nr; exact nr
      refine ⟨.ref x, rfl, x, T.C_Auditor, dx, putF ("known" : Str) (V.ref D) fs1, rfl, (by rw [upd_ne nxr, upd_same]), T.cl_Auditor, T.n_Auditor_received, (by rw [← hf1]; show 3 < 1000; decide), ?_⟩
      have s05 := s04.trans s5
      have s0' : Same H0 (upd (upd (upd H5 x (.ins T.C_Auditor dx (putF ("known" : Str) (V.ref D) fs1))) r (.lst [])) x (.ins T.C_Auditor dx (putF ("received" : Str) (V.ref r) (putF ("known" : Str) (V.ref D) fs1)))) :=
        same_mut (same_mut (same_mut s05 nx) (s05.free nr5)) nx
      -- what stands beside x and r stands as in H5
      have st : ∀ b o, H5 b = some o → b ≠ x → (upd (upd (upd H5 x (.ins T.C_Auditor dx (putF ("known" : Str) (V.ref D) fs1))) r (.lst [])) x (.ins T.C_Auditor dx (putF ("received" : Str) (V.ref r) (putF ("known" : Str) (V.ref D) fs1)))) b = some o := fun b o e n => by
        rw [upd_ne n, upd_ne (ne_of_none e nr5), upd_ne n]
        exact e
      have nl5 := s5 _ _ l4
      have hkx : ∀ m ∈ ms, ad m ≠ x := fun m hm => ne_of (dn.dl.at_ m hm) x5 (fun z => by cases z)
      refine q _ l r D ad s0' (fun A e1 e2 e3 e4 e5 e6 => ?_) (s01.free nl) (s05.free nr5) (s04.free dn.d0) (fun m hm => s04.free (dn.new m hm))
      subst e1 e2 e3 e4 e5 e6
      refine ⟨?_, st _ _ nl5 (Ne.symm nxl), ⟨st _ _ dn.dl.dict (ne_of dn.dl.dict x5 (fun z => by cases z)), fun m hm => st _ _ (dn.dl.at_ m hm) (hkx m hm)⟩, ?_, dn.inj, fun m hm => ?_, fun m hm => ?_, ?_⟩
      · rw [upd_same, ← hf1, fsA_put]
      · rw [upd_ne (Ne.symm nxr), upd_same]
        rfl
      · exact fun z => by have := dn.new m hm; rw [z, l4] at this; cases this
      · exact ne_of_none (dn.dl.at_ m hm) nr5
      · exact Ne.symm (ne_of_none nl5 nr5)
theorem ok_group_init : FnOk P w K mg base CX0 6 T.f_Group_init T.fd_Group_init ["self", "members", "first"] (spGroupInit T.C_Group T.C_Auditor) := by
  have G4 : FnOk P w K mg base CX0 4 T.f_Auditor_init T.fd_Auditor_init ["self", "members", "first"] (spAudInit2 T.C_Auditor) := ok_aud_init T
  refine T.F_Group_init.ok sc_Group_init (fun vs H Q E h => ?_) (fun cdv A outer s H vs Q E hr h => ?_)
  · obtain ⟨H0, x, dx, a, ms, p, rfl, _⟩ := h
    rfl
  · obtain ⟨H0, x, dx, a, ms, p, rfl, nx, s0, hx, ha, M, hp, q⟩ := h
    have nd := sc_Group_init.nd
    refine ⟨_, pss_cons (ps_fld (pv 0) (pe_make T.mk_Auditor G4 hr (by rfl) T.g_Auditor T.b_Auditor_init .nil pass0 (pa_cons (pv 1) (pa_cons (pv 2) pa_nil))) rfl)
      (pss_cons (ps_fld (pv 0) (pe_callTy call_listK (by rfl) T.z_list (by decide +kernel) (pa_cons (pv 1) pa_nil)) rfl)
      (pss_cons (ps_fld (pv 0) (pe_lst (pa_cons (pv 2) pa_nil)) rfl)
      (pss_one (ps_fld (pv 0) (pe_dc (own := [("member", 3)]) (g := gName 3) (tt := tYes) rfl nd (pi_list (pv 1)) (blkOk_by (N := ["self", "members", "first", "member"]) (sc := defScope s_Group_init) (by decide +kernel))
        (fun _ _ _ _ _ => pg_name (i := 3) nd rfl (.inl rfl)) (fun _ _ _ _ _ => pts_nil) (fun _ _ _ _ _ => pv 3) (fun _ _ _ _ _ => pe_lst pa_nil)) rfl)))), ?_⟩
    refine ⟨.ref a, rfl, .str p, rfl, fun y dy ny ndy ney => ?_⟩
    have sy : Same H (upd (upd H dy (.own y)) y (.ins T.C_Auditor dy [])) := (same_new ndy).trans (same_new (by rw [upd_ne (Ne.symm ney)]; exact ny))
    refine ⟨H, y, dy, a, ms, p, rfl, ny, sy, upd_same, s0 _ _ ha, M, hp, fun H1 m2 rc kd ka s1 au n1 n2 n3 n4 => ⟨rfl, ?_⟩⟩
    have x1 := s1 _ _ hx
    -- self.auditor = ..
    refine ⟨.ref x, rfl, x, T.C_Group, dx, [], rfl, x1, T.cl_Group, T.n_Group_auditor, (by decide), ?_⟩
    have s02 : Same H0 (upd H1 x (.ins T.C_Group dx (putF ("auditor" : Str) (V.ref y) []))) := same_mut (s0.trans s1) nx
    refine ⟨.ref a, rfl, a, sv ms, rfl, .inl (sqL (s02 _ _ ha)), fun l nl => ?_⟩
    have nxl : x ≠ l := fun z => by subst z; rw [upd_same] at nl; cases nl
    have nl1 : H1 l = none := by rw [upd_ne (Ne.symm nxl)] at nl; exact nl
    refine ⟨.ref x, rfl, x, T.C_Group, dx, _, rfl, (by rw [upd_ne nxl, upd_same]), T.cl_Group, T.n_Group_members, (by show 1 < 1000; decide), ?_⟩
    generalize hf2 : putF ("members" : Str) (V.ref l) (putF ("auditor" : Str) (V.ref y) []) = fs2
    refine ⟨.str p, rfl, (by show 1 ≤ sizeLine; decide), fun hl nhl => ?_⟩
    have nxh : x ≠ hl := fun z => by subst z; rw [upd_same] at nhl; cases nhl
    have nlh : l ≠ hl := fun z => by subst z; rw [upd_ne (Ne.symm nxl), upd_same] at nhl; cases nhl
    have nhl1 : H1 hl = none := by rw [upd_ne (Ne.symm nxh), upd_ne (Ne.symm nlh), upd_ne (Ne.symm nxh)] at nhl; exact nhl
    refine ⟨.ref x, rfl, x, T.C_Group, dx, fs2, rfl, (by rw [upd_ne nxh, upd_same]), T.cl_Group, T.n_Group_holders, (by rw [← hf2]; show 2 < 1000; decide), ?_⟩
    generalize hH4 : upd (upd (upd (upd (upd H1 x (.ins T.C_Group dx (putF ("auditor" : Str) (V.ref y) []))) l (.lst (sv ms))) x (.ins T.C_Group dx fs2)) hl (.lst [.str p])) x (.ins T.C_Group dx (putF ("holders" : Str) (V.ref hl) fs2)) = H4
    have s04 : Same H0 H4 := by
      rw [← hH4]
      exact same_mut (same_mut (same_mut (same_mut s02 ((s0.trans s1).free nl1)) nx) ((s0.trans s1).free nhl1)) nx
    have l4 : H4 l = some (.lst (sv ms)) := by rw [← hH4, upd_ne (Ne.symm nxl), upd_ne nlh, upd_ne (Ne.symm nxl), upd_same]
    have h4 : H4 hl = some (.lst (sv [p])) := by rw [← hH4, upd_ne (Ne.symm nxh), upd_same]; rfl
    have x4 : H4 x = some (.ins T.C_Group dx (putF ("holders" : Str) (V.ref hl) fs2)) := by rw [← hH4, upd_same]
    -- what stood in H1 beside x
    have st1 : ∀ b o, H1 b = some o → b ≠ x → H4 b = some o := fun b o e n => by
      rw [← hH4, upd_ne n, upd_ne (ne_of_none e nhl1), upd_ne n, upd_ne (ne_of_none e nl1), upd_ne n]
      exact e
    refine ⟨.ref a, rfl, a, rfl, ⟨_, sqL (s04 _ _ ha)⟩, fun D nD => dc_it (walk_sv ms) (fun i H5 => Same H4 H5 ∧ ∃ ad, DN H4 H5 D (ms.take i) ad (fun _ => []))
      ⟨same_new nD, fun _ => x, .nil nD upd_same⟩ (fun i H5 _ pp => sqL (pp.1 _ _ (s04 _ _ ha))) ?_ ?_⟩
    · rintro i z H5 H6 hi ⟨s5, ad, dn⟩ ⟨rfl, m, hm, rfl⟩
      refine ⟨rfl, .str m, rfl, Nat.zero_le _, fun l2 nl2 => ⟨mkv (ms.take i) ad, Sum.inr m, rfl, ?_, ?_, ?_, pad ad m l2, ?_⟩⟩
      · rw [upd_ne (ne_of_none dn.dl.dict nl2)]
        exact dn.dl.dict
      · rw [mkd_len, List.length_take]
        exact sz (by have := M.hi; omega)
      · exact same_mut (s5.trans (same_new nl2)) dn.d0
      · rw [take_snoc hm]
        exact dn.snoc s5 (not_take M.nd hm) (same_new nl2) nl2 upd_same
    · rintro H5 ⟨s5, ad, dn⟩
      rw [List.take_of_length_le (Nat.le_refl _)] at dn
      have x5 := s5 _ _ x4
      refine ⟨.ref x, rfl, x, T.C_Group, dx, _, rfl, x5, T.cl_Group, T.n_Group_lists, (by rw [← hf2]; show 3 < 1000; decide), ?_⟩
      have st5 : ∀ b o, H5 b = some o → b ≠ x → (upd H5 x (.ins T.C_Group dx (putF ("lists" : Str) (V.ref D) (putF ("holders" : Str) (V.ref hl) fs2)))) b = some o := fun b o e n => by
        rw [upd_ne n]
        exact e
      have st : ∀ b o, H1 b = some o → b ≠ x → (upd H5 x (.ins T.C_Group dx (putF ("lists" : Str) (V.ref D) (putF ("holders" : Str) (V.ref hl) fs2)))) b = some o := fun b o e n => st5 b o (s5 _ _ (st1 b o e n)) n
      let A : GA := { g := x, dg := dx, a := y, da := dy, m2 := m2, m3 := l, hl := hl, rc := rc, kd := kd, ld := D, ka := ka, la := ad }
      have AU : AudAt T.C_Auditor H1 A ms p (fun _ => []) [] := au A rfl rfl rfl rfl rfl rfl
      have xk : ∀ (b : Addr) (xs : List V), H1 b = some (.lst xs) → b ≠ x := fun b xs e => ne_of e x1 (fun z => by cases z)
      have lnew : ∀ m ∈ ms, H4 (ad m) = none := dn.new
      have AU' : AudAt T.C_Auditor (upd H5 x (.ins T.C_Group dx (putF ("lists" : Str) (V.ref D) (putF ("holders" : Str) (V.ref hl) fs2)))) A ms p (fun _ => []) [] :=
        ⟨st _ _ AU.ob (fun z => by have := (show H y = none from ny); rw [show y = x from z] at this; rw [this] at hx; cases hx), st _ _ AU.mem (xk _ _ AU.mem), ⟨st _ _ AU.kn.dict (ne_of AU.kn.dict x1 (fun z => by cases z)), fun m hm => st _ _ (AU.kn.at_ m hm) (xk _ _ (AU.kn.at_ m hm))⟩,
          st _ _ AU.rcv (xk _ _ AU.rcv), AU.inj, AU.n1, AU.n2, AU.n3⟩
      refine q _ A (same_mut (s04.trans s5) nx) rfl ⟨AU', ?_, st5 _ _ (s5 _ _ l4) (Ne.symm nxl), st5 _ _ (s5 _ _ h4) (Ne.symm nxh), ⟨st5 _ _ dn.dl.dict (ne_of dn.dl.dict x5 (fun z => by cases z)), fun m hm => st5 _ _ (dn.dl.at_ m hm) (ne_of (dn.dl.at_ m hm) x5 (fun z => by cases z))⟩, dn.inj, fun u hu v hv => ?_, fun m hm => ⟨?_, ?_⟩, fun m hm => ⟨?_, ?_, ?_, ?_⟩, ?_, ?_, ?_, ?_⟩ ?_
      · rw [upd_same, ← hf2, fsG_put]
      · have h1 := st1 _ _ (AU.kn.at_ u hu) (xk _ _ (AU.kn.at_ u hu))
        exact ne_of_none h1 (lnew v hv)
      · exact ne_of_none (AU.kn.at_ m hm) nl1
      · exact ne_of_none (AU.kn.at_ m hm) nhl1
      · exact Ne.symm (ne_of_none (st1 _ _ AU.mem (xk _ _ AU.mem)) (lnew m hm))
      · exact Ne.symm (ne_of_none l4 (lnew m hm))
      · exact Ne.symm (ne_of_none h4 (lnew m hm))
      · exact Ne.symm (ne_of_none (st1 _ _ AU.rcv (xk _ _ AU.rcv)) (lnew m hm))
      · exact ne_of_none AU.rcv nl1
      · exact ne_of_none AU.rcv nhl1
      · exact Ne.symm (ne_of_none AU.mem nhl1)
      · exact Ne.symm nlh
      · intro b hb
        rcases List.mem_cons.mp hb with rfl | hb
        · exact nx
        rcases List.mem_cons.mp hb with rfl | hb
        · exact s0.free ny
        rcases List.mem_cons.mp hb with rfl | hb
        · exact s0.free n1
        rcases List.mem_cons.mp hb with rfl | hb
        · exact (s0.trans s1).free nl1
        rcases List.mem_cons.mp hb with rfl | hb
        · exact s0.free n3
        rcases List.mem_cons.mp hb with rfl | hb
        · exact s04.free dn.d0
        rcases List.mem_cons.mp hb with rfl | hb
        · exact (s0.trans s1).free nhl1
        rcases List.mem_cons.mp hb with rfl | hb
        · exact s0.free n2
        rcases List.mem_append.mp hb with hb | hb
        · obtain ⟨m, hm, rfl⟩ := List.mem_map.mp hb
          exact s0.free (n4 m hm)
        · obtain ⟨m, hm, rfl⟩ := List.mem_map.mp hb
          exact s04.free (lnew m hm)
end
/-! ### the group's state -/
/-- one more for m -/
def bump (k : Str → Nat) (m : Str) : Str → Nat := fun x => if x = m then k x + 1 else k x
/-- a group of ms, led since p, history h; of m's entries k m have arrived -/
structure GS (CG CA : Addr) (H : Hp) (A : GA) (ms : List Str) (p : Str) (h : List Str) (k : Str → Nat) : Prop where
  M : Members ms
  hd : ∃ r, h = p :: r
  hm : ∀ x ∈ h, x ∈ ms
  hl : h.length ≤ 500
  kl : ∀ m ∈ ms, k m ≤ (givers m h).length
  at_ : ∃ rc : List Str, rc.length ≤ (ms.map k).sum ∧ GroupAt CG CA H A ms p (fun m => (givers m h).take (k m)) (fun m => givers m h) h rc
theorem GS.sum {CG CA : Addr} {H : Hp} {A : GA} {ms : List Str} {p : Str} {h : List Str} {k : Str → Nat} (g : GS CG CA H A ms p h k) : (ms.map k).sum ≤ 500 :=
  Nat.le_trans (sum_le g.kl) (Nat.le_trans (givers_sum g.M.nd h) g.hl)
theorem bump_sum {ms : List Str} (nd : ms.Nodup) (k : Str → Nat) {m : Str} (hm : m ∈ ms) : (ms.map (bump k m)).sum = (ms.map k).sum + 1 := by
  induction ms with
  | nil => cases hm
  | cons x r ih =>
    obtain ⟨n1, n2⟩ := List.nodup_cons.mp nd
    simp only [List.map_cons, List.sum_cons]
    by_cases e : x = m
    · subst e
      rw [sum_eq (f := bump k x) (g := k) fun y hy => if_neg (by rintro rfl; exact n1 hy)]
      simp [bump]
      omega
    · have := ih n2 ((List.mem_cons.mp hm).resolve_left (Ne.symm e))
      rw [this, show bump k m x = k x from if_neg e]
      omega
theorem GroupAt.keep {CG CA : Addr} {H H' : Hp} {A : GA} {ms : List Str} {p : Str} {f l : Str → List Str} {h rc : List Str} (g : GroupAt CG CA H A ms p f l h rc) (s : Same H H') : GroupAt CG CA H' A ms p f l h rc :=
  ⟨g.au.same s, s _ _ g.ob, s _ _ g.mem, s _ _ g.hol, g.lst.same s, g.inj, g.k1, g.k2, g.l1, g.r1⟩
theorem GS.same {CG CA : Addr} {H H' : Hp} {A : GA} {ms : List Str} {p : Str} {h : List Str} {k : Str → Nat} (g : GS CG CA H A ms p h k) (s : Same H H') : GS CG CA H' A ms p h k := by
  obtain ⟨M, hd, hm, hl, kl, rc, h1, h2⟩ := g
  exact ⟨M, hd, hm, hl, kl, rc, h1, h2.keep s⟩
/-- nothing of the group's is touched -/
theorem GS.keep {CG CA : Addr} {H H' : Hp} {A : GA} {ms : List Str} {p : Str} {h : List Str} {k : Str → Nat} {W : List Addr} (g : GS CG CA H A ms p h k) (s : Keep W H H')
    (n : ∀ b ∈ W, b ∉ A.g :: A.a :: A.m2 :: A.m3 :: A.kd :: A.ld :: A.wr ms) : GS CG CA H' A ms p h k := by
  obtain ⟨M, hd, hm, hl, kl, rc, h1, g⟩ := g
  have no : ∀ b, b ∈ A.g :: A.a :: A.m2 :: A.m3 :: A.kd :: A.ld :: A.wr ms → b ∉ W := fun b hb hw => n b hw hb
  have u := g.au
  have ik : ∀ m ∈ ms, A.ka m ∈ A.wr ms := fun m hm => by simp [GA.wr]; exact .inr (.inr (.inl ⟨m, hm, rfl⟩))
  have il : ∀ m ∈ ms, A.la m ∈ A.wr ms := fun m hm => by simp [GA.wr]; exact .inr (.inr (.inr ⟨m, hm, rfl⟩))
  refine ⟨M, hd, hm, hl, kl, rc, h1, ⟨s _ _ u.ob (no _ (by simp)), s _ _ u.mem (no _ (by simp)), u.kn.keep s (no _ (by simp)) (fun m hm => no _ (by have := ik m hm; simp [this])), s _ _ u.rcv (no _ (by simp [GA.wr])), u.inj, u.n1, u.n2, u.n3⟩,
    s _ _ g.ob (no _ (by simp)), s _ _ g.mem (no _ (by simp)), s _ _ g.hol (no _ (by simp [GA.wr])), g.lst.keep s (no _ (by simp)) (fun m hm => no _ (by have := il m hm; simp [this])), g.inj, g.k1, g.k2, g.l1, g.r1⟩
/-- all of the group's stands: nothing new is at its places -/
theorem GS.stand {CG CA : Addr} {H : Hp} {A : GA} {ms : List Str} {p : Str} {h : List Str} {k : Str → Nat} (g : GS CG CA H A ms p h k) : ∀ b ∈ A.g :: A.a :: A.m2 :: A.m3 :: A.kd :: A.ld :: A.wr ms, H b ≠ none := by
  obtain ⟨M, hd, hm, hl, kl, rc, h1, g⟩ := g
  have u := g.au
  intro b hb
  simp only [GA.wr, List.mem_cons, List.mem_append, List.mem_map] at hb
  rcases hb with rfl | rfl | rfl | rfl | rfl | rfl | rfl | rfl | ⟨m, hm, rfl⟩ | ⟨m, hm, rfl⟩
  · rw [g.ob]; simp
  · rw [u.ob]; simp
  · rw [u.mem]; simp
  · rw [g.mem]; simp
  · rw [u.kn.dict]; simp
  · rw [g.lst.dict]; simp
  · rw [g.hol]; simp
  · rw [u.rcv]; simp
  · rw [u.kn.at_ m hm]; simp
  · rw [g.lst.at_ m hm]; simp
/-- the entry that arrives next, and what its arrival keeps -/
theorem GS.next {CG CA : Addr} {H : Hp} {A : GA} {ms : List Str} {p : Str} {h : List Str} {k : Str → Nat} (g : GS CG CA H A ms p h k) {m x : Str} (hm : m ∈ ms) (hx : (givers m h)[k m]? = some x) :
    (∀ y ∈ ms, ∀ z ∈ (givers y h).take (k y), z ∈ ms) ∧ Down ms p (fun y => (givers y h).take (k y)) (fun y => h.idxOf y) ∧ (m ≠ p → (givers m h).take (k m) = [] → h.idxOf x < h.idxOf m) ∧ (∀ y ∈ ms, h.idxOf y ≤ 1000) ∧ x ∈ ms := by
  obtain ⟨r, rfl⟩ := g.hd
  have hlen := g.hl
  refine ⟨fun y hy z hz => g.hm _ (givers_mem (List.mem_of_mem_take hz)), fun y hy n z t e => ?_, fun n e => ?_, fun y hy => ?_, g.hm _ (givers_mem (List.mem_of_getElem? hx))⟩
  · cases hg : givers y (p :: r) with
    | nil => simp [hg] at e
    | cons a b =>
      have e : (givers y (p :: r)).take (k y) = z :: t := e
      rw [hg] at e
      cases hk : k y with
      | zero => rw [hk] at e; cases e
      | succ j =>
        rw [hk, List.take_succ_cons] at e
        injection e with e1 e2
        subst e1
        exact ⟨g.hm _ (givers_mem (by rw [hg]; exact List.mem_cons_self)), givers_head n hg⟩
  · cases hg : givers m (p :: r) with
    | nil => rw [hg] at hx; cases hx
    | cons a b =>
      have hk : k m = 0 := by
        rw [hg] at e
        cases hk : k m with
        | zero => rfl
        | succ j => rw [hk] at e; cases e
      rw [hg, hk] at hx
      cases hx
      exact givers_head n hg
  · exact Nat.le_trans List.idxOf_le_length (by omega)
/-! ### the group's methods -/
def spHandTo (CG CA : Addr) : Sp := fun vs H Q _ => ∃ (A : GA) (ms : List Str) (p : Str) (h : List Str) (k : Str → Nat) (m y : Str), vs = [.ref A.g, .str m] ∧ GS CG CA H A ms p h k ∧ h.length < 500 ∧ m ∈ ms ∧ h.getLast? = some y ∧ m ≠ y ∧
  ∀ H', Keep [A.hl, A.la m] H H' → GS CG CA H' A ms p (h ++ [m]) k → Q .non H'
def spHolder (CG CA : Addr) : Sp := fun vs H Q _ => ∃ (A : GA) (ms : List Str) (p : Str) (h : List Str) (k : Str → Nat) (y : Str), vs = [.ref A.g] ∧ GS CG CA H A ms p h k ∧ h.getLast? = some y ∧ Q (.str y) H
def spHistory (CG CA : Addr) : Sp := fun vs H Q _ => ∃ (A : GA) (ms : List Str) (p : Str) (h : List Str) (k : Str → Nat), vs = [.ref A.g] ∧ GS CG CA H A ms p h k ∧ ∀ l, H l = none → Q (.ref l) (upd H l (.lst (sv h)))
def spGLists (CG CA : Addr) : Sp := fun vs H Q _ => ∃ (A : GA) (ms : List Str) (p : Str) (h : List Str) (k : Str → Nat), vs = [.ref A.g] ∧ GS CG CA H A ms p h k ∧ ∀ H' d ad, Same H H' → DN H H' d ms ad (fun m => givers m h) → Q (.ref d) H'
def spGKnown (CG CA : Addr) : Sp := fun vs H Q _ => ∃ (A : GA) (ms : List Str) (p : Str) (h : List Str) (k : Str → Nat), vs = [.ref A.g] ∧ GS CG CA H A ms p h k ∧ ∀ H' d ad, Same H H' → DN H H' d ms ad (fun m => (givers m h).take (k m)) → Q (.ref d) H'
def spWaiting (CG CA : Addr) : Sp := fun vs H Q _ => ∃ (A : GA) (ms : List Str) (p : Str) (h : List Str) (k : Str → Nat) (m : Str), vs = [.ref A.g, .str m] ∧ GS CG CA H A ms p h k ∧ m ∈ ms ∧ Q (.int ((givers m h).length - k m)) H
def spTransit (CG CA : Addr) : Sp := fun vs H Q _ => ∃ (A : GA) (ms : List Str) (p : Str) (h : List Str) (k : Str → Nat), vs = [.ref A.g] ∧ GS CG CA H A ms p h k ∧
  ∀ H' d, Same H H' → H' d = some (.dK (mkd ms fun m => .int ((givers m h).length - k m))) → H d = none → Q (.ref d) H'
def spDeliver (CG CA : Addr) : Sp := fun vs H Q _ => ∃ (A : GA) (ms : List Str) (p : Str) (h : List Str) (k : Str → Nat) (m x : Str), vs = [.ref A.g, .str m] ∧ GS CG CA H A ms p h k ∧ m ∈ ms ∧ (givers m h)[k m]? = some x ∧ x ≠ m ∧
  ∀ H', Keep [A.rc, A.ka m] H H' → GS CG CA H' A ms p h (bump k m) → Q (.str x) H'
def spDeliverAll (CG CA : Addr) : Sp := fun vs H Q _ => ∃ (A : GA) (ms : List Str) (p : Str) (h : List Str) (k : Str → Nat), vs = [.ref A.g] ∧ GS CG CA H A ms p h k ∧ (∀ m ∈ ms, ∀ x ∈ givers m h, x ≠ m) ∧
  ∀ H', Keep (A.wr ms) H H' → GS CG CA H' A ms p h (fun m => (givers m h).length) → Q (.int ((ms.map fun m => (givers m h).length - k m).sum : Nat)) H'
section
variable {P : Program} {w : World} {K : PySem.W.Frag} {mg : Str → Option Value} {base : Heap} (T : Txt K mg)
theorem getLast_at {h : List Str} {y : Str} (e : h.getLast? = some y) : atI (sv h) (-1) = some (.str y) := by
  obtain ⟨l, rfl⟩ : ∃ l, h = l ++ [y] := by
    cases h with
    | nil => cases e
    | cons a r =>
      refine ⟨(a :: r).dropLast, ?_⟩
      rw [List.getLast?_eq_getLast (List.cons_ne_nil _ _)] at e
      rw [← Option.some.inj e, List.dropLast_concat_getLast]
  have e2 : sv (l ++ [y]) = sv l ++ [V.str y] := by simp
  rw [e2]
  exact atI_last _ _
theorem ok_holder : FnOk P w K mg base CX0 1 T.f_Group_holder_now T.fd_Group_holder_now ["self"] (spHolder T.C_Group T.C_Auditor) := by
  refine T.F_Group_holder_now.ok sc_Group_holder_now (fun vs H Q E h => ?_) (fun cdv A outer s H vs Q E hr h => ?_)
  · obtain ⟨A, ms, p, h, k, y, rfl, _⟩ := h
    rfl
  · obtain ⟨A, ms, p, h, k, y, rfl, g, hy, q⟩ := h
    obtain ⟨rc, _, ga⟩ := g.at_
    refine ⟨_, pss_one (ps_ret (pe_ix ix_list (pe_fld (pv 0) rfl) (pe_un un_neg pe_int) (fun _ _ => rfl))), ?_⟩
    exact ⟨.ref A.g, rfl, A.g, T.C_Group, A.dg, _, .ref A.hl, rfl, ga.ob, T.cl_Group, T.n_Group_holders, fsG_holders .., 1, rfl, A.hl, sv h, -1, .str y, rfl, rfl, sqL ga.hol, getLast_at hy, q⟩
theorem ok_history : FnOk P w K mg base CX0 1 T.f_Group_history_so_far T.fd_Group_history_so_far ["self"] (spHistory T.C_Group T.C_Auditor) := by
  refine T.F_Group_history_so_far.ok sc_Group_history_so_far (fun vs H Q E h => ?_) (fun cdv A outer s H vs Q E hr h => ?_)
  · obtain ⟨A, ms, p, h, k, rfl, _⟩ := h
    rfl
  · obtain ⟨A, ms, p, h, k, rfl, g, q⟩ := h
    obtain ⟨rc, _, ga⟩ := g.at_
    refine ⟨_, pss_one (ps_ret (pe_callTy call_listK (by rfl) T.z_list (by decide +kernel) (pa_cons (pe_fld (pv 0) rfl) pa_nil))), ?_⟩
    exact ⟨.ref A.g, rfl, A.g, T.C_Group, A.dg, _, .ref A.hl, rfl, ga.ob, T.cl_Group, T.n_Group_holders, fsG_holders .., A.hl, sv h, rfl, .inl (sqL ga.hol), fun l nl => q l nl⟩
theorem ok_glists : FnOk P w K mg base CX0 1 T.f_Group_lists_so_far T.fd_Group_lists_so_far ["self"] (spGLists T.C_Group T.C_Auditor) := by
  refine T.F_Group_lists_so_far.ok sc_Group_lists_so_far (fun vs H Q E h => ?_) (fun cdv A outer s H vs Q E hr h => ?_)
  · obtain ⟨A, ms, p, h, k, rfl, _⟩ := h
    rfl
  · obtain ⟨A, ms, p, h, k, rfl, g, q⟩ := h
    obtain ⟨rc, _, ga⟩ := g.at_
    have M := g.M
    have hu := hu_of (k := 0) hr
    have nd := sc_Group_lists_so_far.nd
    refine ⟨_, pss_one (ps_ret (pe_dc (own := [("member", 1)]) (g := gName 1) (tt := tYes) (tv := tCB (rListOf K) (tCons (tDGet (tFld K (tVar 0) "lists") (tVar 1)) tNil)) rfl nd (pi_list (pe_fld (pv 0) rfl)) (blkOk_by (N := ["self", "member"]) (sc := defScope s_Group_lists_so_far) (by decide +kernel))
      (fun _ _ _ _ _ => pg_name (i := 1) nd rfl (.inl rfl)) (fun _ _ _ _ _ => pts_nil) (fun _ _ _ _ _ => pv 1)
      (fun _ _ _ _ _ => pe_callTy call_listK (by rfl) T.z_list (by decide +kernel) (pa_cons (pe_dget hu (pe_fld (pv 0) rfl) (pv 1) (fun _ _ => rfl)) pa_nil)))), ?_⟩
    refine ⟨.ref A.g, rfl, A.g, T.C_Group, A.dg, _, .ref A.m3, rfl, ga.ob, T.cl_Group, T.n_Group_members, fsG_members .., A.m3, rfl, ⟨_, sqL ga.mem⟩, fun D nD => dc_it (walk_sv ms) (fun i H1 => Same H H1 ∧ ∃ ad, DN H H1 D (ms.take i) ad (fun m => givers m h))
      ⟨same_new nD, A.ka, .nil nD upd_same⟩ (fun i H1 _ p => sqL (p.1 _ _ ga.mem)) ?_ ?_⟩
    · rintro i x H1 H2 hi ⟨s1, ad, dn⟩ ⟨rfl, m, hm, rfl⟩
      have mm := List.mem_of_getElem? hm
      have g1 := ga.keep s1
      refine ⟨rfl, .str m, rfl, .ref A.g, rfl, A.g, T.C_Group, A.dg, _, .ref A.ld, rfl, g1.ob, T.cl_Group, T.n_Group_lists, fsG_lists .., .str m, rfl, A.ld, .ref (A.la m), rfl, g1.lst.get mm,
        A.la m, sv (givers m h), rfl, .inl (sqL (g1.lst.at_ m mm)), fun l nl => ⟨mkv (ms.take i) ad, Sum.inr m, rfl, ?_, ?_, ?_, pad ad m l, ?_⟩⟩
      · rw [upd_ne (ne_of_none dn.dl.dict nl)]
        exact dn.dl.dict
      · rw [mkd_len, List.length_take]
        exact sz (by have := M.hi; omega)
      · exact same_mut (s1.trans (same_new nl)) dn.d0
      · rw [take_snoc hm]
        exact dn.snoc s1 (not_take M.nd hm) (same_new nl) nl upd_same
    · rintro H1 ⟨s1, ad, dn⟩
      rw [List.take_of_length_le (Nat.le_refl _)] at dn
      exact q _ _ _ s1 dn
theorem ok_gknown : FnOk P w K mg base CX0 2 T.f_Group_known_so_far T.fd_Group_known_so_far ["self"] (spGKnown T.C_Group T.C_Auditor) := by
  have G1 : FnOk P w K mg base CX0 1 T.f_Auditor_received_lists T.fd_Auditor_received_lists ["self"] (spRecLists T.C_Auditor) := ok_received_lists T
  refine T.F_Group_known_so_far.ok sc_Group_known_so_far (fun vs H Q E h => ?_) (fun cdv A outer s H vs Q E hr h => ?_)
  · obtain ⟨A, ms, p, h, k, rfl, _⟩ := h
    rfl
  · obtain ⟨A, ms, p, h, k, rfl, g, q⟩ := h
    obtain ⟨rc, _, ga⟩ := g.at_
    refine ⟨_, pss_one (ps_ret (pe_meth0 (pe_fld (pv 0) rfl) T.cl_Auditor T.m_Auditor_received_lists G1 hr T.b_Auditor_received_lists .nil pass0)), ?_⟩
    exact ⟨.ref A.g, rfl, A.g, T.C_Group, A.dg, _, .ref A.a, rfl, ga.ob, T.cl_Group, T.n_Group_auditor, fsG_auditor .., A.a, A.da, _, rfl, ga.au.ob, rfl, A, ms, p, _, rc, rfl, ga.au, g.M, fun H' d ad s' dn => q H' d ad s' dn⟩
theorem ok_waiting : FnOk P w K mg base CX0 1 T.f_Group_waiting T.fd_Group_waiting ["self", "member"] (spWaiting T.C_Group T.C_Auditor) := by
  refine T.F_Group_waiting.ok sc_Group_waiting (fun vs H Q E h => ?_) (fun cdv A outer s H vs Q E hr h => ?_)
  · obtain ⟨A, ms, p, h, k, m, rfl, _⟩ := h
    rfl
  · obtain ⟨A, ms, p, h, k, m, rfl, g, hm, q⟩ := h
    obtain ⟨rc, _, ga⟩ := g.at_
    have hu := hu_of (k := 0) hr
    refine ⟨_, pss_one (ps_ret (pe_op op_sub (pe_callB call_lenK (by rfl) T.z_len PySem.boot_len (pa_cons (pe_dget hu (pe_fld (pv 0) rfl) (pv 1) (fun _ _ => rfl)) pa_nil))
      (pe_callB call_lenK (by rfl) T.z_len PySem.boot_len (pa_cons (pe_dget hu (pe_fld (pe_fld (pv 0) rfl) rfl) (pv 1) (fun _ _ => rfl)) pa_nil)))), ?_⟩
    refine ⟨.ref A.g, rfl, A.g, T.C_Group, A.dg, _, .ref A.ld, rfl, ga.ob, T.cl_Group, T.n_Group_lists, fsG_lists .., .str m, rfl, A.ld, .ref (A.la m), rfl, ga.lst.get hm, A.la m, sv (givers m h), rfl, .inl (sqL (ga.lst.at_ m hm)), ?_⟩
    refine ⟨.ref A.g, rfl, A.g, T.C_Group, A.dg, _, .ref A.a, rfl, ga.ob, T.cl_Group, T.n_Group_auditor, fsG_auditor .., A.a, T.C_Auditor, A.da, _, .ref A.kd, rfl, ga.au.ob, T.cl_Auditor, T.n_Auditor_known, fsA_known .., .str m, rfl, A.kd, .ref (A.ka m), rfl, ga.au.kn.get hm, A.ka m, sv ((givers m h).take (k m)), rfl, .inl (sqL (ga.au.kn.at_ m hm)), ?_⟩
    refine ⟨_, _, rfl, rfl, ?_⟩
    have e : (((sv (givers m h)).length : Int) - ((sv ((givers m h).take (k m))).length : Int)) = ((givers m h).length : Int) - (k m : Int) := by
      have := g.kl m hm
      rw [List.length_map, List.length_map, List.length_take]
      omega
    show Q (.int (((sv (givers m h)).length : Int) - ((sv ((givers m h).take (k m))).length : Int))) H
    rw [e]
    exact q
theorem ok_transit : FnOk P w K mg base CX0 2 T.f_Group_reports_in_transit T.fd_Group_reports_in_transit ["self"] (spTransit T.C_Group T.C_Auditor) := by
  have G1 : FnOk P w K mg base CX0 1 T.f_Group_waiting T.fd_Group_waiting ["self", "member"] (spWaiting T.C_Group T.C_Auditor) := ok_waiting T
  refine T.F_Group_reports_in_transit.ok sc_Group_reports_in_transit (fun vs H Q E h => ?_) (fun cdv A outer s H vs Q E hr h => ?_)
  · obtain ⟨A, ms, p, h, k, rfl, _⟩ := h
    rfl
  · obtain ⟨A, ms, p, h, k, rfl, g, q⟩ := h
    obtain ⟨rc, _, ga⟩ := g.at_
    have M := g.M
    have nd := sc_Group_reports_in_transit.nd
    refine ⟨_, pss_one (ps_ret (pe_dc (own := [("member", 1)]) (g := gName 1) (tt := tYes) rfl nd (pi_list (pe_fld (pv 0) rfl)) (blkOk_by (N := ["self", "member"]) (sc := defScope s_Group_reports_in_transit) (by decide +kernel))
      (fun _ _ _ _ _ => pg_name (i := 1) nd rfl (.inl rfl)) (fun _ _ _ _ _ => pts_nil) (fun _ _ _ _ _ => pv 1)
      (fun _ _ _ _ _ => pe_meth (pv 0) T.cl_Group T.m_Group_waiting G1 hr T.b_Group_waiting .nil pass0 (pa_cons (pv 1) pa_nil)))), ?_⟩
    refine ⟨.ref A.g, rfl, A.g, T.C_Group, A.dg, _, .ref A.m3, rfl, ga.ob, T.cl_Group, T.n_Group_members, fsG_members .., A.m3, rfl, ⟨_, sqL ga.mem⟩, fun D nD => dc_it (walk_sv ms) (fun i H1 => Same H H1 ∧ H1 D = some (.dK (mkd (ms.take i) fun m => .int ((givers m h).length - k m))))
      ⟨same_new nD, upd_same⟩ (fun i H1 _ p => sqL (p.1 _ _ ga.mem)) ?_ ?_⟩
    · rintro i x H1 H2 hi ⟨s1, e1⟩ ⟨rfl, m, hm, rfl⟩
      have mm := List.mem_of_getElem? hm
      refine ⟨rfl, .str m, rfl, .ref A.g, rfl, A.g, A.dg, _, rfl, s1 _ _ ga.ob, rfl, .str m, rfl, A, ms, p, h, k, m, rfl, g.same s1, mm, ⟨mkd (ms.take i) _, Sum.inr m, rfl, e1, ?_, same_mut s1 nD, ?_⟩⟩
      · rw [mkd_len, List.length_take]
        exact sz (by have := M.hi; omega)
      · rw [upd_same, take_snoc hm, mkd_snoc (v' := fun m => .int ((givers m h).length - k m)) (not_take M.nd hm) (fun _ _ => rfl) rfl]
    · rintro H1 ⟨s1, e1⟩
      rw [List.take_of_length_le (Nat.le_refl _)] at e1
      exact q _ _ s1 e1 nD
end
theorem AudAt.congr {C : Addr} {H : Hp} {A : GA} {ms : List Str} {p : Str} {f g : Str → List Str} {rc : List Str} (h : AudAt C H A ms p f rc) (e : ∀ m ∈ ms, f m = g m) : AudAt C H A ms p g rc :=
  ⟨h.ob, h.mem, DL.congr h.kn e, h.rcv, h.inj, h.n1, h.n2, h.n3⟩
section
variable {P : Program} {w : World} {K : PySem.W.Frag} {mg : Str → Option Value} {base : Heap} (T : Txt K mg)
theorem ok_hand_to : FnOk P w K mg base CX0 2 T.f_Group_hand_to T.fd_Group_hand_to ["self", "member"] (spHandTo T.C_Group T.C_Auditor) := by
  have G1 : FnOk P w K mg base CX0 1 T.f_need_one_of T.fd_need_one_of ["members", "value"] spNeedOneOf := ok_need_one_of T
  refine T.F_Group_hand_to.ok sc_Group_hand_to (fun vs H Q E h => ?_) (fun cdv A outer s H vs Q E hr h => ?_)
  · obtain ⟨A, ms, p, h, k, m, y, rfl, _⟩ := h
    rfl
  · obtain ⟨A, ms, p, h, k, m, y, rfl, g, hl, hm, hy, hne, q⟩ := h
    obtain ⟨rc, hrc, ga⟩ := g.at_
    have hu := hu_of hr
    have u := ga.au
    refine ⟨_, pss_cons (ps_expr (pe_call G1 hr (by rfl) T.g_need_one_of T.F_need_one_of.kp T.b_need_one_of .nil pass0 (pa_cons (pe_fld (pv 0) rfl) (pa_cons (pv 1) pa_nil))))
      (pss_cons (ps_if (pt_cmpR op_eq (pv 1) (pe_ix ix_list (pe_fld (pv 0) rfl) (pe_un un_neg pe_int) (fun _ _ => rfl)) (nomark _)) pss_never pss_nil)
      (pss_cons (ps_expr (pe_bm PySem.F.plainAttrs_list PySem.F.slot_list_append PySem.F.type_list_append mt_append (pe_dget hu (pe_fld (pv 0) rfl) (pv 1) (fun _ _ => rfl)) (pa_cons (pe_ix ix_list (pe_fld (pv 0) rfl) (pe_un un_neg pe_int) (fun _ _ => rfl)) pa_nil)))
      (pss_one (ps_expr (pe_bm PySem.F.plainAttrs_list PySem.F.slot_list_append PySem.F.type_list_append mt_append (pe_fld (pv 0) rfl) (pa_cons (pv 1) pa_nil)))))), ?_⟩
    refine ⟨.ref A.g, rfl, A.g, T.C_Group, A.dg, _, .ref A.m3, rfl, ga.ob, T.cl_Group, T.n_Group_members, fsG_members .., .str m, rfl, A.m3, ms, m, rfl, ga.mem, hm, ?_⟩
    refine ⟨.str m, rfl, .ref A.g, rfl, A.g, T.C_Group, A.dg, _, .ref A.hl, rfl, ga.ob, T.cl_Group, T.n_Group_holders, fsG_holders .., 1, rfl, A.hl, sv h, -1, .str y, rfl, rfl, sqL ga.hol, getLast_at hy, rfl, _, rfl, ?_⟩
    rw [decide_eq_false (fun z => hne (V.str.inj z))]
    refine iteF ?_
    have hg1 := givers_len m h
    refine ⟨.ref A.g, rfl, A.g, T.C_Group, A.dg, _, .ref A.ld, rfl, ga.ob, T.cl_Group, T.n_Group_lists, fsG_lists .., .str m, rfl, A.ld, .ref (A.la m), rfl, ga.lst.get hm, .inl ⟨rfl, _, sqL (ga.lst.at_ m hm)⟩,
      .ref A.g, rfl, A.g, T.C_Group, A.dg, _, .ref A.hl, rfl, ga.ob, T.cl_Group, T.n_Group_holders, fsG_holders .., 1, rfl, A.hl, sv h, -1, .str y, rfl, rfl, sqL ga.hol, getLast_at hy, A.la m, sv (givers m h), .str y, rfl, rfl, ga.lst.at_ m hm, ?_, ?_⟩
    · rw [List.length_map]
      exact sz (by omega)
    have e1 : sv (givers m h) ++ [V.str y] = sv (givers m h ++ [y]) := by simp
    have e2 : sv h ++ [V.str m] = sv (h ++ [m]) := by simp
    rw [e1]
    obtain ⟨l1, l2, l3, l4⟩ := ga.l1 m hm
    have kl := ga.lst.upd hm ga.inj (x := givers m h ++ [y])
    have ob2 : (upd H (A.la m) (.lst (sv (givers m h ++ [y])))) A.g = some (.ins T.C_Group A.dg (fsG A.a A.m3 A.hl A.ld)) := by rw [upd_ne (ne_of ga.ob (ga.lst.at_ m hm) (fun z => by cases z))]; exact ga.ob
    have hl2 : (upd H (A.la m) (.lst (sv (givers m h ++ [y])))) A.hl = some (.lst (sv h)) := by rw [upd_ne (Ne.symm l3)]; exact ga.hol
    refine ⟨.ref A.g, rfl, A.g, T.C_Group, A.dg, _, .ref A.hl, rfl, ob2, T.cl_Group, T.n_Group_holders, fsG_holders .., .inl ⟨rfl, _, sqL hl2⟩, .str m, rfl, A.hl, sv h, .str m, rfl, rfl, hl2, ?_, ?_⟩
    · rw [List.length_map]
      exact sz (by omega)
    rw [e2]
    have hne0 : h ≠ [] := by obtain ⟨r, e⟩ := g.hd; rw [e]; simp
    have hly : h.getLast hne0 = y := by rw [List.getLast?_eq_getLast hne0] at hy; exact Option.some.inj hy
    have gv : ∀ x, givers x (h ++ [m]) = put (fun z => givers z h) m (givers m h ++ [y]) x := fun x => by
      rw [givers_last hne0, hly]
      by_cases e : x = m
      · subst e; rw [if_pos rfl, put_same]
      · rw [if_neg (Ne.symm e), List.append_nil, put_ne e]
    have k1 : Keep [A.hl, A.la m] H (upd (upd H (A.la m) (.lst (sv (givers m h ++ [y])))) A.hl (.lst (sv (h ++ [m])))) := (keep_upd (by simp)).trans (keep_upd (by simp))
    refine q _ k1 ⟨g.M, ?_, ?_, ?_, ?_, rc, hrc, ?_, ?_, ?_, ?_, ?_, ga.inj, ga.k1, ga.k2, ga.l1, ga.r1⟩
    · obtain ⟨r, e⟩ := g.hd
      exact ⟨r ++ [m], by rw [e]; rfl⟩
    · intro x hx
      rcases List.mem_append.mp hx with hx | hx
      · exact g.hm x hx
      · rw [List.mem_singleton.mp hx]; exact hm
    · simp; omega
    · intro x hx
      have := g.kl x hx
      rw [givers_last hne0, List.length_append]
      omega
    · refine AudAt.congr (f := fun x => (givers x h).take (k x)) ?_ fun x hx => ?_
      · have nk : ∀ x ∈ ms, A.ka x ∉ [A.hl, A.la m] := fun x hx => by
          have h1 := (ga.k2 x hx).2
          have h2 := ga.k1 x hx m hm
          simp [h1, h2]
        refine ⟨k1 _ _ u.ob ?_, k1 _ _ u.mem ?_, u.kn.keep k1 ?_ nk, k1 _ _ u.rcv ?_, u.inj, u.n1, u.n2, u.n3⟩
        · have h1 := ne_of u.ob ga.hol (fun z => by cases z)
          have h2 := ne_of u.ob (ga.lst.at_ m hm) (fun z => by cases z)
          simp [h1, h2]
        · have h1 := ga.r1.2.2.1
          simp [Ne.symm h1, Ne.symm l1]
        · have h1 := ne_of u.kn.dict ga.hol (fun z => by cases z)
          have h2 := ne_of u.kn.dict (ga.lst.at_ m hm) (fun z => by cases z)
          simp [h1, h2]
        · have h1 := ga.r1.2.1
          simp [h1, Ne.symm l4]
      · have := g.kl x hx
        rw [givers_last hne0, List.take_append_of_le_length this]
    · rw [upd_ne (ne_of ga.ob ga.hol (fun z => by cases z))]
      exact ob2
    · rw [upd_ne (Ne.symm ga.r1.2.2.2), upd_ne (Ne.symm l2)]
      exact ga.mem
    · rw [upd_same]
    · refine DL.congr (f := put (fun z => givers z h) m (givers m h ++ [y])) ?_ fun x _ => (gv x).symm
      refine DL.keep kl (keep_upd (W := [A.hl]) (by simp)) ?_ fun x hx => by simpa using (ga.l1 x hx).2.2.1
      have := ne_of ga.lst.dict ga.hol (fun z => by cases z)
      simpa using this
theorem ok_deliver : FnOk P w K mg base CX0 3 T.f_Group_deliver_from T.fd_Group_deliver_from ["self", "member"] (spDeliver T.C_Group T.C_Auditor) := by
  have G1 : FnOk P w K mg base CX0 1 T.f_need_one_of T.fd_need_one_of ["members", "value"] spNeedOneOf := ok_need_one_of T
  have GW : FnOk P w K mg base CX0 1 T.f_Group_waiting T.fd_Group_waiting ["self", "member"] (spWaiting T.C_Group T.C_Auditor) := ok_waiting T
  have GR : FnOk P w K mg base CX0 2 T.f_Auditor_receive T.fd_Auditor_receive ["self", "member", "giver"] (spReceive T.C_Auditor) := ok_receive T
  refine T.F_Group_deliver_from.ok sc_Group_deliver_from (fun vs H Q E h => ?_) (fun cdv A outer s H vs Q E hr h => ?_)
  · obtain ⟨A, ms, p, h, k, m, x, rfl, _⟩ := h
    rfl
  · obtain ⟨A, ms, p, h, k, m, x, rfl, g, hm, hx, hne, q⟩ := h
    obtain ⟨rc, hrc, ga⟩ := g.at_
    have hr1 : Room 1 _ := hr.mono (by decide)
    have hu := hu_of hr
    have u := ga.au
    have nd := sc_Group_deliver_from.nd
    refine ⟨_, pss_cons (ps_expr (pe_call G1 hr1 (by rfl) T.g_need_one_of T.F_need_one_of.kp T.b_need_one_of .nil pass0 (pa_cons (pe_fld (pv 0) rfl) (pa_cons (pv 1) pa_nil))))
      (pss_cons (ps_if (pt_cmpR op_eq (pe_meth (pv 0) T.cl_Group T.m_Group_waiting GW hr1 T.b_Group_waiting .nil pass0 (pa_cons (pv 1) pa_nil)) pe_int (nomark _)) pss_never pss_nil)
      (pss_cons (ps_set (i := 2) nd rfl (.inl rfl) (pe_ix ix_list (pe_dget hu (pe_fld (pv 0) rfl) (pv 1) (fun _ _ => rfl)) (pe_callB call_lenK (by rfl) T.z_len PySem.boot_len (pa_cons (pe_dget hu (pe_fld (pe_fld (pv 0) rfl) rfl) (pv 1) (fun _ _ => rfl)) pa_nil)) (fun _ _ => rfl)))
      (pss_cons (ps_expr (pe_meth (pe_fld (pv 0) rfl) T.cl_Auditor T.m_Auditor_receive GR hr T.b_Auditor_receive .nil pass0 (pa_cons (pv 1) (pa_cons (pv 2) pa_nil))))
      (pss_one (ps_ret (pv 2)))))), ?_⟩
    have hk : k m < (givers m h).length := (List.getElem?_eq_some_iff.mp hx).1
    refine ⟨.ref A.g, rfl, A.g, T.C_Group, A.dg, _, .ref A.m3, rfl, ga.ob, T.cl_Group, T.n_Group_members, fsG_members .., .str m, rfl, A.m3, ms, m, rfl, ga.mem, hm, ?_⟩
    refine ⟨.ref A.g, rfl, A.g, A.dg, _, rfl, ga.ob, rfl, .str m, rfl, A, ms, p, h, k, m, rfl, g, hm, rfl, _, rfl, ?_⟩
    rw [decide_eq_false (fun z => by have := V.int.inj z; omega)]
    refine iteF ?_
    refine ⟨.ref A.g, rfl, A.g, T.C_Group, A.dg, _, .ref A.ld, rfl, ga.ob, T.cl_Group, T.n_Group_lists, fsG_lists .., .str m, rfl, A.ld, .ref (A.la m), rfl, ga.lst.get hm,
      .ref A.g, rfl, A.g, T.C_Group, A.dg, _, .ref A.a, rfl, ga.ob, T.cl_Group, T.n_Group_auditor, fsG_auditor .., A.a, T.C_Auditor, A.da, _, .ref A.kd, rfl, u.ob, T.cl_Auditor, T.n_Auditor_known, fsA_known .., .str m, rfl, A.kd, .ref (A.ka m), rfl, u.kn.get hm, A.ka m, sv ((givers m h).take (k m)), rfl, .inl (sqL (u.kn.at_ m hm)),
      A.la m, sv (givers m h), _, .str x, rfl, rfl, sqL (ga.lst.at_ m hm), ?_, ?_⟩
    · refine at_of (j := k m) ?_ (sv_get hx)
      rw [List.length_map, List.length_take]
      omega
    obtain ⟨n1, n2, n3, n4, n5⟩ := g.next hm hx
    have hlen := g.hl
    have hsum := g.sum
    have hg1 := givers_len m h
    refine ⟨.ref A.g, rfl, A.g, T.C_Group, A.dg, _, .ref A.a, rfl, ga.ob, T.cl_Group, T.n_Group_auditor, fsG_auditor .., A.a, A.da, _, rfl, u.ob, rfl, .str m, rfl, .str x, rfl,
      A, ms, p, _, rc, m, x, (fun y => h.idxOf y), rfl, u, g.M, ?_, hm, n5, hne, n1, n2, n3, n4, ?_, ?_, fun H1 k1 u1 => ?_⟩
    · obtain ⟨r, e⟩ := g.hd
      exact g.hm p (by rw [e]; exact List.mem_cons_self)
    · rw [List.length_take]; omega
    · omega
    · refine ⟨.str x, rfl, q H1 k1 ⟨g.M, g.hd, g.hm, g.hl, fun y hy => ?_, rc ++ [m], ?_, AudAt.congr u1 fun y _ => ?_, k1 _ _ ga.ob ?_, k1 _ _ ga.mem ?_, k1 _ _ ga.hol ?_, ga.lst.keep k1 ?_ fun y hy => ?_, ga.inj, ga.k1, ga.k2, ga.l1, ga.r1⟩⟩
      · by_cases e : y = m
        · subst e; simp [bump]; omega
        · rw [show bump k m y = k y from if_neg e]; exact g.kl y hy
      · rw [bump_sum g.M.nd k hm, List.length_append, List.length_singleton]; omega
      · by_cases e : y = m
        · subst e
          rw [put_same, show bump k y y = k y + 1 from if_pos rfl, take_snoc hx]
        · rw [put_ne e, show bump k m y = k y from if_neg e]
      · have h1 := ne_of ga.ob u.rcv (fun z => by cases z)
        have h2 := ne_of ga.ob (u.kn.at_ m hm) (fun z => by cases z)
        simp [h1, h2]
      · simp [Ne.symm ga.r1.1, Ne.symm (ga.k2 m hm).1]
      · simp [Ne.symm ga.r1.2.1, Ne.symm (ga.k2 m hm).2]
      · have h1 := ne_of ga.lst.dict u.rcv (fun z => by cases z)
        have h2 := ne_of ga.lst.dict (u.kn.at_ m hm) (fun z => by cases z)
        simp [h1, h2]
      · simp [(ga.l1 y hy).2.2.2, Ne.symm (ga.k1 m hm y hy)]
end
/-- how many entries have arrived when the first i members' are all there, t more of the next one's -/
def arr (ms : List Str) (h : List Str) (k : Str → Nat) (i : Nat) : Str → Nat := fun m => if m ∈ ms.take i then (givers m h).length else k m
theorem GS.ext {CG CA : Addr} {H : Hp} {A : GA} {ms : List Str} {p : Str} {h : List Str} {k j : Str → Nat} (g : GS CG CA H A ms p h k) (e : ∀ m ∈ ms, k m = j m) : GS CG CA H A ms p h j := by
  obtain ⟨M, hd, hm, hl, kl, rc, h1, g⟩ := g
  refine ⟨M, hd, hm, hl, fun m hm => by rw [← e m hm]; exact kl m hm, rc, by rw [← sum_eq e]; exact h1, AudAt.congr g.au fun m hm => by rw [e m hm], g.ob, g.mem, g.hol, g.lst, g.inj, g.k1, g.k2, g.l1, g.r1⟩
theorem arr_next {ms h : List Str} {k : Str → Nat} {i : Nat} {m : Str} (nd : ms.Nodup) (hm : ms[i]? = some m) (x : Str) : arr ms h k (i + 1) x = if x = m then (givers m h).length else arr ms h k i x := by
  unfold arr
  rw [take_snoc hm]
  by_cases e : x = m
  · subst e; simp
  · simp [e]
section
variable {P : Program} {w : World} {K : PySem.W.Frag} {mg : Str → Option Value} {base : Heap} (T : Txt K mg)
theorem ok_deliver_all : FnOk P w K mg base CX0 4 T.f_Group_deliver_all T.fd_Group_deliver_all ["self"] (spDeliverAll T.C_Group T.C_Auditor) := by
  have GW : FnOk P w K mg base CX0 1 T.f_Group_waiting T.fd_Group_waiting ["self", "member"] (spWaiting T.C_Group T.C_Auditor) := ok_waiting T
  have GD : FnOk P w K mg base CX0 3 T.f_Group_deliver_from T.fd_Group_deliver_from ["self", "member"] (spDeliver T.C_Group T.C_Auditor) := ok_deliver T
  refine T.F_Group_deliver_all.ok sc_Group_deliver_all (fun vs H Q E h => ?_) (fun cdv A outer s H vs Q E hr h => ?_)
  · obtain ⟨A, ms, p, h, k, rfl, _⟩ := h
    rfl
  · obtain ⟨A, ms, p, h, k, rfl, g, hno, q⟩ := h
    have hr1 : Room 1 _ := hr.mono (by decide)
    have nd := sc_Group_deliver_all.nd
    have mnd := g.M.nd
    refine ⟨_, pss_cons (ps_set (i := 1) nd rfl (.inl rfl) pe_int)
      (pss_cons (ps_for PassesOwn.never rfl (pi_list (pe_fld (pv 0) rfl)) (pg_name (i := 2) nd rfl (.inl rfl))
        (pss_one (ps_for PassesOwn.never rfl (pi_range1 (by rfl) T.z_range (pa_cons (pe_meth (pv 0) T.cl_Group T.m_Group_waiting GW hr1 T.b_Group_waiting .nil pass0 (pa_cons (pv 2) pa_nil)) pa_nil)) (pg_name (i := 3) nd rfl (.inl rfl))
          (pss_cons (ps_expr (pe_meth (pv 0) T.cl_Group T.m_Group_deliver_from GD hr T.b_Group_deliver_from .nil pass0 (pa_cons (pv 2) pa_nil)))
            (pss_one (ps_aug (i := 1) nd rfl (.inl rfl) pe_int ip_add))))))
      (pss_one (ps_ret (pv 1)))), ?_⟩
    obtain ⟨rc0, _, ga0⟩ := g.at_
    refine ⟨.ref A.g, rfl, A.g, T.C_Group, A.dg, _, .ref A.m3, rfl, ga0.ob, T.cl_Group, T.n_Group_members, fsG_members .., A.m3, rfl, ⟨_, sqL ga0.mem⟩,
      for_it (walk_sv ms) (fun i σ H1 => ∃ x2 x3, σ = [some (.ref A.g), some (.int (((ms.take i).map fun m => (givers m h).length - k m).sum : Nat)), x2, x3] ∧ Keep (A.wr ms) H H1 ∧ GS T.C_Group T.C_Auditor H1 A ms p h (arr ms h k i)) ?_ ?_ ?_ ?_⟩
    · exact ⟨none, none, rfl, Keep.refl H, g.ext fun m _ => by simp [arr]⟩
    · rintro i σ H1 _ ⟨_, _, _, _, g1⟩
      obtain ⟨rc1, _, ga1⟩ := g1.at_
      exact sqL ga1.mem
    · rintro i x σ H1 H2 hi ⟨x2, x3, rfl, k1, g1⟩ ⟨rfl, m, hm, rfl⟩
      have mm := List.mem_of_getElem? hm
      obtain ⟨rc1, _, ga1⟩ := g1.at_
      have em : arr ms h k i m = k m := by unfold arr; rw [if_neg (not_take mnd hm)]
      have hkm := g.kl m mm
      have hgl := givers_len m h
      have hhl := g.hl
      have nW : ((givers m h).length : Int) - (arr ms h k i m : Int) = (((givers m h).length - k m : Nat) : Int) := by rw [em]; omega
      refine ⟨.ref A.g, rfl, A.g, A.dg, _, rfl, ga1.ob, rfl, .str m, rfl, A, ms, p, h, arr ms h k i, m, rfl, g1, mm, _, rfl, by omega, by omega, ?_⟩
      rw [nW]
      refine for_it (walk_range (lo := 0)) (fun t σ H3 => ∃ x3, σ = [some (.ref A.g), some (.int ((((ms.take i).map fun m => (givers m h).length - k m).sum + t : Nat))), some (.str m), x3] ∧ Keep (A.wr ms) H H3 ∧
        GS T.C_Group T.C_Auditor H3 A ms p h (fun x => if x = m then k m + t else arr ms h k i x)) ?_ (fun _ _ _ _ _ => True.intro) ?_ ?_
      · refine ⟨x3, rfl, k1, g1.ext fun x _ => ?_⟩
        by_cases e : x = m
        · subst e; simp [em]
        · simp [e]
      · rintro t y σ H3 H4 ht ⟨y3, rfl, k3, g3⟩ ⟨rfl, rfl⟩
        have ht' : t < (givers m h).length - k m := by simpa using ht
        obtain ⟨rc3, _, ga3⟩ := g3.at_
        have hx : (givers m h)[(fun x => if x = m then k m + t else arr ms h k i x) m]? = some ((givers m h)[k m + t]'(by omega)) := by
          show (givers m h)[if m = m then k m + t else arr ms h k i m]? = _
          rw [if_pos rfl]
          exact List.getElem?_eq_getElem (by omega)
        refine ⟨.ref A.g, rfl, A.g, A.dg, _, rfl, ga3.ob, rfl, .str m, rfl, A, ms, p, h, _, m, _, rfl, g3, mm, hx, hno m mm _ (List.mem_of_getElem? hx), fun H5 k5 g5 => ?_⟩
        refine ⟨_, rfl, _, _, rfl, rfl, ?_⟩
        refine ⟨some (.int (0 + (t : Int))), ?_, k3.trans (k5.mono fun b hb => ?_), g5.ext fun x _ => ?_⟩
        · rfl
        · simp only [GA.wr, List.mem_cons, List.mem_append, List.mem_map]
          rcases List.mem_cons.mp hb with rfl | hb
          · exact .inr (.inl rfl)
          · rw [List.mem_singleton.mp hb]
            exact .inr (.inr (.inl ⟨m, mm, rfl⟩))
        · unfold bump
          by_cases e : x = m
          · subst e; simp; omega
          · simp [e]
      · rintro σ H3 ⟨y3, rfl, k3, g3⟩
        refine ⟨some (.str m), y3, ?_, k3, g3.ext fun x _ => ?_⟩
        · have e : ((ms.take (i + 1)).map fun m => (givers m h).length - k m).sum = ((ms.take i).map fun m => (givers m h).length - k m).sum + ((givers m h).length - k m) := by
            rw [take_snoc hm, List.map_append, List.sum_append]
            simp
          rw [e]
          rfl
        · rw [arr_next mnd hm]
          have : ((((givers m h).length - k m : Nat) : Int).toNat) = (givers m h).length - k m := by omega
          rw [this]
          by_cases e : x = m
          · subst e; simp; omega
          · simp [e]
    · rintro σ H1 ⟨x2, x3, rfl, k1, g1⟩
      rw [List.take_of_length_le (Nat.le_refl _)]
      refine ⟨_, rfl, q H1 k1 (g1.ext fun m hm => ?_)⟩
      unfold arr
      rw [List.take_of_length_le (Nat.le_refl _), if_pos hm]
end
/-! ### the law's draws -/
/-- a bag of which at most n numbers were drawn -/
def Bag (H : Hp) (b : Addr) (n : Nat) : Prop := ∃ b0 b1 b2 : Int, H b = some (.lst [.int b0, .int b1, .int b2]) ∧ 0 ≤ b1 ∧ b1 < 2 ^ 136 ∧ 0 ≤ b2 ∧ b2 ≤ n
theorem Bag.mono {H : Hp} {b : Addr} {n m : Nat} (h : Bag H b n) (hn : n ≤ m) : Bag H b m := by
  obtain ⟨b0, b1, b2, e, h1, h2, h3, h4⟩ := h
  exact ⟨b0, b1, b2, e, h1, h2, h3, by omega⟩
theorem Bag.keep {W : List Addr} {H H' : Hp} {b : Addr} {n : Nat} (h : Bag H b n) (k : Keep W H H') (nb : b ∉ W) : Bag H' b n := by
  obtain ⟨b0, b1, b2, e, r⟩ := h
  exact ⟨b0, b1, b2, k _ _ e nb, r⟩
theorem Bag.lst {H : Hp} {b : Addr} {n : Nat} (h : Bag H b n) : ∃ xs, H b = some (.lst xs) := by
  obtain ⟨b0, b1, b2, e, r⟩ := h
  exact ⟨_, e⟩
def spBag (K : PySem.W.Frag) : Sp := fun vs H Q _ => ∃ (a : Addr) (ns : List Int) (k : Nat), vs = [.ref a, .int k] ∧ SqL K H a (ns.map V.int) ∧ k ≤ 63 ∧ ∀ H' p, Same H H' → H p = none → Bag H' p 4000 → Q (.ref p) H'
def spTake : Sp := fun vs H Q _ => ∃ (b : Addr) (m : Int) (n : Nat), vs = [.ref b, .int m] ∧ 1 ≤ m ∧ m ≤ 1000000 ∧ Bag H b n ∧ n ≤ 1000000000 ∧ ∀ H' r, Keep [b] H H' → Bag H' b (n + 1) → 0 ≤ r → r < m → Q (.int r) H'
def spPick : Sp := fun vs H Q _ => ∃ (b a : Addr) (xs : List V) (n : Nat), vs = [.ref b, .ref a] ∧ H a = some (.lst xs) ∧ 1 ≤ xs.length ∧ xs.length ≤ 1000000 ∧ a ≠ b ∧ Bag H b n ∧ n ≤ 1000000000 ∧ ∀ H' v, Keep [b] H H' → Bag H' b (n + 1) → v ∈ xs → Q v H'
def spMembers : Sp := fun vs H Q _ => ∃ (b : Addr) (lo hi : Int) (n : Nat), vs = [.ref b, .int lo, .int hi] ∧ 1 ≤ lo ∧ lo ≤ hi ∧ hi ≤ 12 ∧ Bag H b n ∧ n ≤ 1000000000 ∧
  ∀ H' p ms, Keep [b] H H' → Bag H' b (n + 1) → H p = none → H' p = some (.lst (sv ms)) → Members ms → (lo ≤ ms.length ∧ ms.length ≤ hi) → Q (.ref p) H'
theorem natAbs_lt {x : Int} {n : Nat} (h0 : 0 ≤ x) (h : x < n) : x.natAbs < n := by omega
theorem mark_small {b1 b2 : Int} (h1 : 0 ≤ b1) (h2 : b1 < 2 ^ 136) (h3 : 0 ≤ b2) (h4 : b2 ≤ 1000000001) : (b1 + 1).natAbs < 2 ^ 137 ∧ (30011 * b2 + 7).natAbs < 2 ^ 50 ∧ (104729 * b2).natAbs < 2 ^ 60 ∧ b2.natAbs < 2 ^ 40 ∧
    ((b1 + 1) * (30011 * b2 + 7) + 104729 * b2 * b2).natAbs < 2 ^ 200 := by
  have a1 : (b1 + 1).natAbs < 2 ^ 137 := by omega
  have a2 : (30011 * b2 + 7).natAbs < 2 ^ 50 := by omega
  have a3 : (104729 * b2).natAbs < 2 ^ 60 := by omega
  have a4 : b2.natAbs < 2 ^ 40 := by omega
  have p1 := wide_lt a1 a2
  have p2 := wide_lt a3 a4
  refine ⟨a1, a2, a3, a4, ?_⟩
  generalize (b1 + 1) * (30011 * b2 + 7) = x at p1 ⊢
  generalize 104729 * b2 * b2 = y at p2 ⊢
  omega
theorem ltCps_of : ∀ a b : List Nat, ltCps b a = false → a ≠ b → ltCps a b = true
  | [], [], _, n => absurd rfl n
  | [], _ :: _, _, _ => rfl
  | _ :: _, [], h, _ => by simp [ltCps] at h
  | x :: r, y :: t, h, n => by
    simp only [ltCps, Bool.or_eq_false_iff, Bool.and_eq_false_iff, decide_eq_false_iff_not, beq_eq_false_iff_ne] at h
    simp only [ltCps, Bool.or_eq_true, Bool.and_eq_true, decide_eq_true_eq, beq_iff_eq]
    obtain ⟨h1, h2⟩ := h
    by_cases e : x = y
    · subst e
      refine .inr ⟨rfl, ltCps_of r t (h2.resolve_left fun z => z rfl) fun z => n (by rw [z])⟩
    · exact .inl (by omega)
theorem str_ext {x y : Str} (h : x.cps.toList = y.cps.toList) : x = y := by
  obtain ⟨⟨a⟩⟩ := x
  obtain ⟨⟨b⟩⟩ := y
  simp at h
  rw [h]
theorem rising_asc : ∀ (p : Str) (l : List Str), risingS p l = true → (p :: l).Nodup → ∀ (i : Nat) (x y : Str), (p :: l)[i]? = some x → (p :: l)[i + 1]? = some y → x.cps.toList < y.cps.toList
  | p, [], _, _, i, x, y, _, h2 => by simp at h2
  | p, a :: r, h, nd, 0, x, y, h1, h2 => by
    have e1 : p = x := Option.some.inj h1
    have e2 : a = y := Option.some.inj h2
    subst e1 e2
    have h : (!ltCps a.cps.toList p.cps.toList && risingS a r) = true := h
    rw [Bool.and_eq_true, Bool.not_eq_true'] at h
    have n : p ≠ a := by
      have := (List.nodup_cons.mp nd).1
      exact fun z => this (z ▸ List.mem_cons_self)
    have := ltCps_of _ _ h.1 fun z => n (str_ext z)
    rw [PyProof.Rows.ltCps_eq] at this
    exact of_decide_eq_true this
  | p, a :: r, h, nd, i + 1, x, y, h1, h2 => by
    have h : (!ltCps a.cps.toList p.cps.toList && risingS a r) = true := h
    rw [Bool.and_eq_true] at h
    exact rising_asc a r h.2 (List.nodup_cons.mp nd).2 i x y h1 h2
theorem sorted_asc {l : List Str} (h : sortedS l = true) (nd : l.Nodup) : ∀ (i : Nat) (x y : Str), l[i]? = some x → l[i + 1]? = some y → x.cps.toList < y.cps.toList := by
  cases l with
  | nil => intro i x y h1; simp at h1
  | cons p r => exact rising_asc p r h nd
section
variable {P : Program} {w : World} {K : PySem.W.Frag} {mg : Str → Option Value} {base : Heap} (T : Txt K mg)
theorem ok_bag : FnOk P w K mg base CX0 1 T.f_l_bag T.fd_l_bag ["_law_script", "_law_k"] (spBag K) := by
  refine T.F_l_bag.ok sc_l_bag (fun vs H Q E h => ?_) (fun cdv A outer s H vs Q E hr h => ?_)
  · obtain ⟨a, ns, k, rfl, _⟩ := h
    rfl
  · obtain ⟨a, ns, k, rfl, hS, hk, q⟩ := h
    have nd := sc_l_bag.nd
    refine ⟨_, pss_cons (ps_set (i := 2) nd rfl (.inl rfl) pe_int)
      (pss_cons (ps_if (pt_cmpR op_lt (pv 1) (pe_callB call_lenK (by rfl) T.z_len PySem.boot_len (pa_cons (pv 0) pa_nil)) (nomark _)) (pss_one (ps_set (i := 2) nd rfl (.inl rfl) (pe_ix ix_list (pv 0) (pv 1) (fun _ _ => rfl)))) pss_nil)
      (pss_one (ps_ret (pe_lst (pa_cons (pe_callB (call_max2 rfl) (by rfl) T.z_max (by decide +kernel) (pa_cons pe_int (pa_cons (pe_op op_sub (pv 2) (pe_op op_pow pe_int pe_int)) pa_nil)))
        (pa_cons (pe_op op_mod (pv 2) (pe_op op_add (pe_op op_pow pe_int pe_int) pe_int)) (pa_cons (pe_op op_mul pe_int (pv 1)) pa_nil))))))), ?_⟩
    refine ⟨_, rfl, .ref a, rfl, a, ns.map V.int, rfl, .inl hS, k, _, rfl, rfl, _, rfl, ?_⟩
    have go : ∀ c : Int, 0 ≤ c % (10 ^ (40 : Int).toNat + 121) ∧ c % (10 ^ (40 : Int).toNat + 121) < 2 ^ 136 := fun c => by
      have hp : (0 : Int) < 10 ^ (40 : Int).toNat + 121 := by decide +kernel
      have h1 := Int.emod_nonneg c (show (10 ^ (40 : Int).toNat + 121 : Int) ≠ 0 by omega)
      have h2 := Int.emod_lt_of_pos c hp
      have h3 : (10 ^ (40 : Int).toNat + 121 : Int) < 2 ^ 136 := by decide +kernel
      exact ⟨h1, Int.lt_trans h2 h3⟩
    refine ite2 (fun h1 => ?_) (fun h1 => ?_)
    · have hk2 : k < ns.length := by have := of_decide_eq_true h1; rw [List.length_map] at this; omega
      refine ⟨.ref a, rfl, .int k, rfl, a, ns.map V.int, k, .int ns[k], rfl, rfl, hS, atI_nat (by rw [List.getElem?_map, List.getElem?_eq_getElem hk2]; rfl), ?_⟩
      obtain ⟨g1, g2⟩ := go ns[k]
      refine ⟨_, rfl, _, _, rfl, rfl, (by unfold CPow; decide +kernel), _, _, rfl, rfl, _, _, rfl, _, rfl, _, _, rfl, rfl, (by unfold CPow; decide +kernel), _, _, rfl, rfl, _, _, rfl, rfl, (show (0 : Int) < 10 ^ (40 : Int).toNat + 121 by decide +kernel), _, rfl, 61, k, rfl, rfl, .inl (by decide), (by show 3 ≤ sizeLine; decide), fun p np => ?_⟩
      refine q _ p (same_new np) np ⟨_, _, _, upd_same, g1, g2, by omega, by omega⟩
    · obtain ⟨g1, g2⟩ := go 0
      refine ⟨_, rfl, _, _, rfl, rfl, (by unfold CPow; decide +kernel), _, _, rfl, rfl, _, _, rfl, _, rfl, _, _, rfl, rfl, (by unfold CPow; decide +kernel), _, _, rfl, rfl, _, _, rfl, rfl, (show (0 : Int) < 10 ^ (40 : Int).toNat + 121 by decide +kernel), _, rfl, 61, k, rfl, rfl, .inl (by decide), (by show 3 ≤ sizeLine; decide), fun p np => ?_⟩
      refine q _ p (same_new np) np ⟨_, _, _, upd_same, g1, g2, by omega, by omega⟩
theorem ok_take : FnOk P w K mg base CX0 1 T.f_l_take T.fd_l_take ["_law_bag_here", "_law_many"] spTake := by
  refine T.F_l_take.ok sc_l_take (fun vs H Q E h => ?_) (fun cdv A outer s H vs Q E hr h => ?_)
  · obtain ⟨b, m, n, rfl, _⟩ := h
    rfl
  · obtain ⟨b, m, n, rfl, m1, m2, ⟨b0, b1, b2, hb, h1, h2, h3, h4⟩, hn, q⟩ := h
    have nd := sc_l_take.nd
    refine ⟨_, pss_cons (ps_if (pt_cmpR op_gt (pe_ix ix_list (pv 0) pe_int (fun _ _ => rfl)) pe_int (nomark _))
        (pss_cons (ps_set (i := 2) nd rfl (.inl rfl) (pe_op op_mod (pe_ix ix_list (pv 0) pe_int (fun _ _ => rfl)) (pv 1)))
        (pss_cons (ps_asg (pe_op op_fdivN (pe_ix ix_list (pv 0) pe_int (fun _ _ => rfl)) (pv 1)) (pg_sub (pv 0) pe_int set_list)) (pss_one (ps_ret (pv 2))))) pss_nil)
      (pss_cons (ps_asg (pe_op op_add (pe_ix ix_list (pv 0) pe_int (fun _ _ => rfl)) pe_int) (pg_sub (pv 0) pe_int set_list))
      (pss_cons (ps_set (i := 3) nd rfl (.inl rfl) (pe_op op_add (pe_op op_mulW (pe_op op_add (pe_ix ix_list (pv 0) pe_int (fun _ _ => rfl)) pe_int) (pe_op op_add (pe_op op_mulW pe_int (pe_ix ix_list (pv 0) pe_int (fun _ _ => rfl))) pe_int))
        (pe_op op_mulW (pe_op op_mulW pe_int (pe_ix ix_list (pv 0) pe_int (fun _ _ => rfl))) (pe_ix ix_list (pv 0) pe_int (fun _ _ => rfl)))))
      (pss_cons (ps_set (i := 3) nd rfl (.inl rfl) (pe_op op_mod (pe_op op_mulW (pv 3) (pv 3)) (pe_op op_add (pe_op op_pow pe_int pe_int) pe_int)))
      (pss_one (ps_ret (pe_op op_mod (pe_op op_fdivN (pe_op op_mod (pe_op op_mulW (pv 3) (pe_op op_add (pv 3) pe_int)) (pe_op op_add (pe_op op_pow pe_int pe_int) pe_int)) pe_int) (pv 1))))))), ?_⟩
    have i0 : atI [V.int b0, V.int b1, V.int b2] 0 = some (.int b0) := by rfl
    refine ⟨.ref b, rfl, b, _, 0, _, rfl, rfl, sqL hb, i0, b0, 0, rfl, rfl, _, rfl, ?_⟩
    refine ite2 (fun z => ?_) (fun z => ?_)
    · refine ⟨.ref b, rfl, b, _, 0, _, rfl, rfl, sqL hb, i0, .int m, rfl, b0, m, rfl, rfl, (by show 0 < m; omega), ?_⟩
      refine ⟨.ref b, rfl, b, _, 0, _, rfl, rfl, sqL hb, i0, .int m, rfl, b0, m, rfl, rfl, ⟨by omega, by omega⟩, ?_⟩
      refine ⟨.ref b, rfl, b, _, 0, 0, rfl, rfl, hb, rfl, ?_⟩
      refine ⟨_, rfl, ?_⟩
      exact q _ _ (keep_upd (by simp)) ⟨_, b1, b2, upd_same, h1, h2, h3, by omega⟩ (Int.emod_nonneg _ (by omega)) (Int.emod_lt_of_pos _ (by omega))
    · have i2 : atI [V.int b0, V.int b1, V.int b2] 2 = some (.int b2) := by rfl
      refine ⟨.ref b, rfl, b, _, 2, _, rfl, rfl, sqL hb, i2, _, _, rfl, rfl, ?_⟩
      refine ⟨.ref b, rfl, b, _, 2, 2, rfl, rfl, hb, rfl, ?_⟩
      have hb' : (upd H b (.lst ([V.int b0, V.int b1, V.int b2].set 2 (V.int (b2 + 1))))) b = some (.lst [V.int b0, V.int b1, V.int (b2 + 1)]) := upd_same
      have k1 : Keep [b] H (upd H b (.lst ([V.int b0, V.int b1, V.int b2].set 2 (V.int (b2 + 1))))) := keep_upd (by simp)
      generalize upd H b (.lst ([V.int b0, V.int b1, V.int b2].set 2 (V.int (b2 + 1)))) = H1 at hb' k1
      have j1 : atI [V.int b0, V.int b1, V.int (b2 + 1)] 1 = some (.int b1) := by rfl
      have j2 : atI [V.int b0, V.int b1, V.int (b2 + 1)] 2 = some (.int (b2 + 1)) := by rfl
      obtain ⟨c1, c2, c3, c4, c5⟩ := mark_small h1 h2 (show 0 ≤ b2 + 1 by omega) (show b2 + 1 ≤ 1000000001 by omega)
      -- mark = ..
      refine ⟨.ref b, rfl, b, _, 1, _, rfl, rfl, sqL hb', j1, _, _, rfl, rfl, .ref b, rfl, b, _, 2, _, rfl, rfl, sqL hb', j2, _, _, rfl, rfl, wide_mul (a := 20) (b := 40) (by decide) c4 (by decide) (by decide) (by decide), _, _, rfl, rfl, _, _, rfl, rfl, wide_mul c1 c2 (by decide) (by decide) (by decide),
        .ref b, rfl, b, _, 2, _, rfl, rfl, sqL hb', j2, _, _, rfl, rfl, wide_mul (a := 20) (b := 40) (by decide) c4 (by decide) (by decide) (by decide), .ref b, rfl, b, _, 2, _, rfl, rfl, sqL hb', j2, _, _, rfl, rfl, wide_mul c3 c4 (by decide) (by decide) (by decide), _, _, rfl, rfl, ?_⟩
      have hp : (0 : Int) < 10 ^ (41 : Int).toNat + 37 := by decide +kernel
      have hp2 : (10 ^ (41 : Int).toNat + 37 : Int) < 2 ^ 140 := by decide +kernel
      refine ⟨_, rfl, _, rfl, _, _, rfl, rfl, wide_mul (a := 200) (b := 200) c5 c5 (by decide) (by decide) (by decide), _, _, rfl, rfl, (by unfold CPow; decide +kernel), _, _, rfl, rfl, _, _, rfl, rfl, hp, ?_⟩
      have ey : ∀ z : Int, (z % (10 ^ (41 : Int).toNat + 37)).natAbs < 2 ^ 141 ∧ (z % (10 ^ (41 : Int).toNat + 37) + 97).natAbs < 2 ^ 141 := fun z => by
        have e1 := Int.emod_nonneg z (show (10 ^ (41 : Int).toNat + 37 : Int) ≠ 0 by omega)
        have e2 := Int.lt_trans (Int.emod_lt_of_pos z hp) hp2
        omega
      have hp3 : (0 : Int) < 10 ^ (40 : Int).toNat + 4323 := by decide +kernel
      refine ⟨_, rfl, _, rfl, _, _, rfl, rfl, _, _, rfl, rfl, wide_mul (a := 141) (b := 141) (ey _).1 (ey _).2 (by decide) (by decide) (by decide), _, _, rfl, rfl, (by unfold CPow; decide +kernel), _, _, rfl, rfl, _, _, rfl, rfl, hp3, _, _, rfl, rfl, ⟨by decide, by decide⟩, _, rfl, _, _, rfl, rfl, (by show 0 < m; omega), ?_⟩
      exact q _ _ k1 ⟨_, _, _, hb', h1, h2, by omega, by omega⟩ (Int.emod_nonneg _ (by omega)) (Int.emod_lt_of_pos _ (by omega))
theorem ok_pick : FnOk P w K mg base CX0 2 T.f_l_pick T.fd_l_pick ["_law_bag_here", "_law_values"] spPick := by
  have GT : FnOk P w K mg base CX0 1 T.f_l_take T.fd_l_take ["_law_bag_here", "_law_many"] spTake := ok_take T
  refine T.F_l_pick.ok sc_l_pick (fun vs H Q E h => ?_) (fun cdv A outer s H vs Q E hr h => ?_)
  · obtain ⟨b, a, xs, n, rfl, _⟩ := h
    rfl
  · obtain ⟨b, a, xs, n, rfl, ha, l1, l2, ne, B, hn, q⟩ := h
    refine ⟨_, pss_one (ps_ret (pe_ix ix_list (pv 1) (pe_call GT hr (by rfl) T.g_l_take T.F_l_take.kp T.b_l_take .nil pass0 (pa_cons (pv 0) (pa_cons (pe_callB call_lenK (by rfl) T.z_len PySem.boot_len (pa_cons (pv 1) pa_nil)) pa_nil))) (fun _ _ => rfl))), ?_⟩
    refine ⟨.ref a, rfl, .ref b, rfl, .ref a, rfl, a, xs, rfl, .inl (sqL ha), b, xs.length, n, rfl, by omega, by omega, B, hn, fun H1 r k1 B1 r0 r1 => ?_⟩
    have hi : r.toNat < xs.length := by omega
    refine ⟨a, xs, r, xs[r.toNat], rfl, rfl, sqL (k1 _ _ ha (by simpa using ne)), at_of (j := r.toNat) (by omega) (List.getElem?_eq_getElem hi), ?_⟩
    exact q _ _ k1 B1 (List.getElem_mem hi)
end
theorem cut_to (xs : List V) (j : Nat) : cutV xs none (some (j : Int)) = xs.take j := by
  have h := HT.sIx_nat xs.length xs.length j
  unfold cutV
  rw [HT.sIx_none, h]
  simp [List.take_eq_take_iff]
def poolL : List Str := ["a", "aa", "b", "hand", "p", "zzzzzzzz", "list", "c", "known", "d", "group", "e"]
theorem pool_nd : poolL.Nodup := by decide +kernel
theorem pool_nm : ∀ m ∈ poolL, nameB m = true := by decide +kernel
section
variable {P : Program} {w : World} {K : PySem.W.Frag} {mg : Str → Option Value} {base : Heap} (T : Txt K mg)
theorem ok_l_members : FnOk P w K mg base CX0 2 T.f_l_members T.fd_l_members ["_law_bag_here", "_law_least", "_law_most"] spMembers := by
  have GT : FnOk P w K mg base CX0 1 T.f_l_take T.fd_l_take ["_law_bag_here", "_law_many"] spTake := ok_take T
  refine T.F_l_members.ok sc_l_members (fun vs H Q E h => ?_) (fun cdv A outer s H vs Q E hr h => ?_)
  · obtain ⟨b, lo, hi, n, rfl, _⟩ := h
    rfl
  · obtain ⟨b, lo, hi, n, rfl, l1, l2, l3, B, hn, q⟩ := h
    have nd := sc_l_members.nd
    refine ⟨_, pss_cons (ps_set (i := 3) nd rfl (.inl rfl) (pe_lst (pa_cons pe_str (pa_cons pe_str (pa_cons pe_str (pa_cons pe_str (pa_cons pe_str (pa_cons pe_str (pa_cons pe_str (pa_cons pe_str (pa_cons pe_str (pa_cons pe_str (pa_cons pe_str (pa_cons pe_str pa_nil))))))))))))))
      (pss_one (ps_ret (pe_callB cr_sortedS (by rfl) T.z_sorted (by decide +kernel) (pa_cons (pe_slice sl_list (pv 3) po_none (po_some (pe_op op_add (pv 1)
        (pe_call GT hr (by rfl) T.g_l_take T.F_l_take.kp T.b_l_take .nil pass0 (pa_cons (pv 0) (pa_cons (pe_op op_add (pe_op op_sub (pv 2) (pv 1)) pe_int) pa_nil)))))) pa_nil)))), ?_⟩
    refine ⟨(by show 12 ≤ sizeLine; decide), fun pl npl => ?_⟩
    obtain ⟨xs0, hb0⟩ := B.lst
    have nbl : b ≠ pl := ne_of_none hb0 npl
    have k0 : Keep [b] H (upd H pl (.lst (sv poolL))) := keep_new npl
    have B0 : Bag (upd H pl (.lst (sv poolL))) b n := B.keep (W := []) (keep_new npl) (by simp)
    refine ⟨_, rfl, _, rfl, .ref b, rfl, _, rfl, _, rfl, _, _, rfl, rfl, _, _, rfl, rfl, b, _, n, rfl, by omega, by omega, B0, hn, fun H1 r k1 B1 r0 r1 => ?_⟩
    have hj : lo + r = ((lo + r).toNat : Int) := by omega
    have hpl : H1 pl = some (.lst (sv poolL)) := k1 _ _ upd_same (by simpa using Ne.symm nbl)
    refine ⟨_, _, rfl, rfl, _, rfl, pl, sv poolL, rfl, sqL hpl, fun c nc => ?_⟩
    have ec : cutV (sv poolL) none (some (lo + r)) = sv (poolL.take (lo + r).toNat) := by
      rw [hj, cut_to, Int.toNat_natCast]
      exact List.map_take.symm
    have hlen : (poolL.take (lo + r).toNat).length = (lo + r).toNat := by
      rw [List.length_take]
      show min _ 12 = _
      omega
    refine ⟨c, poolL.take (lo + r).toNat, rfl, sqL (by rw [upd_same, ec]), by omega, fun ys p perm srt np => ?_⟩
    have k2 : Keep [b] H (upd (upd H1 c (.lst (cutV (sv poolL) none (some (lo + r))))) p (.lst (sv ys))) := ((k0.trans k1).trans (keep_new nc)).trans (keep_new np)
    have ysub : ∀ m ∈ ys, m ∈ poolL := fun m hm => List.mem_of_mem_take (perm.mem_iff.mp hm)
    have ynd : ys.Nodup := perm.nodup_iff.mpr (pool_nd.sublist (List.take_sublist _ _))
    have ylen : ys.length = (lo + r).toNat := by rw [perm.length_eq, hlen]
    have nbp : b ≠ p := by
      obtain ⟨xs1, hb1⟩ := B1.lst
      exact ne_of_none (same_new nc _ _ hb1) np
    have np1 : H p = none := by
      have e1 : (upd H1 c (.lst (cutV (sv poolL) none (some (lo + r))))) p = none := np
      exact ((k0.trans k1).trans (keep_new (o := .lst (cutV (sv poolL) none (some (lo + r)))) nc)).free e1 (by simpa using Ne.symm nbp)
    refine q _ p ys k2 ?_ np1 upd_same ⟨by omega, by omega, fun m hm => pool_nm m (ysub m hm), sorted_asc srt ynd, ynd⟩ ⟨by omega, by omega⟩
    exact (B1.keep (W := []) (keep_new nc) (by simp)).keep (W := []) (keep_new np) (by simp)
end
/-! ### histories, lists of the law -/
structure Hist (ms h : List Str) : Prop where
  ne : h ≠ []
  mem : ∀ x ∈ h, x ∈ ms
  adj : ∀ (i : Nat) (x y : Str), h[i]? = some x → h[i + 1]? = some y → x ≠ y
theorem Hist.one {ms : List Str} {p : Str} (h : p ∈ ms) : Hist ms [p] := ⟨by simp, fun x hx => by rw [List.mem_singleton.mp hx]; exact h, fun i x y _ h2 => by simp at h2⟩
theorem Hist.snoc {ms h : List Str} {y m : Str} (g : Hist ms h) (hy : h.getLast? = some y) (hm : m ∈ ms) (n : m ≠ y) : Hist ms (h ++ [m]) := by
  refine ⟨by simp, fun x hx => ?_, fun i a b h1 h2 => ?_⟩
  · rcases List.mem_append.mp hx with hx | hx
    · exact g.mem x hx
    · rw [List.mem_singleton.mp hx]; exact hm
  · have hl : i + 1 < (h ++ [m]).length := (List.getElem?_eq_some_iff.mp h2).1
    rw [List.length_append, List.length_singleton] at hl
    by_cases e : i + 1 < h.length
    · rw [List.getElem?_append_left (by omega)] at h1
      rw [List.getElem?_append_left e] at h2
      exact g.adj i a b h1 h2
    · have e1 : i = h.length - 1 := by omega
      have e2 : i + 1 = h.length := by omega
      rw [List.getElem?_append_left (by omega), e1, ← List.getLast?_eq_getElem?, hy] at h1
      rw [e2, List.getElem?_append_right (Nat.le_refl _), Nat.sub_self] at h2
      cases h1
      cases h2
      exact Ne.symm n
theorem givers_ne {m x : Str} : ∀ {h : List Str}, (∀ (i : Nat) (a b : Str), h[i]? = some a → h[i + 1]? = some b → a ≠ b) → x ∈ givers m h → x ≠ m
  | [], _, k => by simp [givers] at k
  | [_], _, k => by simp [givers] at k
  | a :: b :: r, d, k => by
    have k : x ∈ (if b = m then a :: givers m (b :: r) else givers m (b :: r)) := k
    have d' : ∀ (i : Nat) (u v : Str), (b :: r)[i]? = some u → (b :: r)[i + 1]? = some v → u ≠ v := fun i u v h1 h2 => d (i + 1) u v h1 h2
    by_cases e : b = m
    · rw [if_pos e] at k
      rcases List.mem_cons.mp k with z | z
      · subst z e
        exact d 0 x b rfl rfl
      · exact givers_ne d' z
    · rw [if_neg e] at k
      exact givers_ne d' k
/-- dict(pairs) -/
def rDictP (K : PySem.W.Frag) : List V → Hp → VK → Prop := fun xs H Q => ∃ (a : Addr) (ps : List Addr) (kvs : List (Key × V)), xs = [.ref a] ∧
  SqL K H a (ps.map V.ref) ∧ Paired (fun p kv => SqT K H p [kV kv.1, kv.2]) ps kvs ∧
  ∀ p, H p = none → Q (.ref p) (upd H p (.dK (mergeK [] kvs)))
theorem call_dictK {X : Cx} (hc : X.calm = true) : CallR X (.type "dict") (rDictP X.K) := call_dictP hc
theorem merge_mkd (v : Str → V) : ∀ (ys xs : List Str), (xs ++ ys).Nodup → mergeK (mkd xs v) (mkd ys v) = mkd (xs ++ ys) v
  | [], xs, _ => by rw [List.append_nil]; rfl
  | y :: r, xs, nd => by
    have h : y ∉ xs := fun m => by
      have := List.nodup_append.mp nd
      exact this.2.2 y m y List.mem_cons_self rfl
    have e : xs ++ y :: r = (xs ++ [y]) ++ r := by simp
    rw [e] at nd ⊢
    have ih := merge_mkd v r (xs ++ [y]) nd
    show mergeK (putK (mkd xs v) (Sum.inr y) (v y)) (mkd r v) = _
    rw [mkd_snoc (v' := v) h (fun _ _ => rfl) rfl]
    exact ih
theorem wipe1 (σ : L2.St) (j : Nat) (v : Option V) : wipe ((wipe σ [j]).set j v) [j] = wipe σ [j] := by
  show (((σ.set j none).set j v).set j none) = σ.set j none
  simp
/-- dict([(m, []) for m in ms]) -/
theorem dict_lists {K : PySem.W.Frag} {σ : L2.St} {H : Hp} {Q : VK} {i j : Nat} {a : Addr} {ms : List Str} (hi : σ[i]? = some (some (.ref a))) (hj : j < σ.length) (ha : H a = some (.lst (sv ms))) (nd : ms.Nodup) (hl : ms.length ≤ 1000)
    (q : ∀ H' d ad, Same H H' → DN H H' d ms ad (fun _ => []) → Q (.ref d) H') :
    tCB (rDictP K) (tCons (tLc (iList K (tVar i)) (gName j) tYes (tTup (tCons (tVar j) (tCons (tLst tNil) tNil))) [j]) tNil) σ H Q := by
  refine ⟨.ref a, hi, a, rfl, ⟨_, sqL ha⟩, fun D nD => lc_it (walk_sv ms) (fun i H1 => Same H H1 ∧ ∃ (ps : List Addr) (ad : Str → Addr), H1 D = some (.lst (ps.map V.ref)) ∧ Paired (fun p m => H1 p = some (.tup [.str m, .ref (ad m)])) ps (ms.take i) ∧
      (∀ m ∈ ms.take i, H1 (ad m) = some (.lst []) ∧ H (ad m) = none ∧ ad m ≠ D) ∧ (∀ x ∈ ms.take i, ∀ y ∈ ms.take i, ad x = ad y → x = y)) ?_ (fun i H1 _ p => sqL (p.1 _ _ ha)) ?_ ?_⟩
  · exact ⟨same_new nD, [], fun _ => D, upd_same, .nil, fun _ z => (by cases z), fun _ z => (by cases z)⟩
  · rintro t x H0 H1 ht ⟨s1, ps, ad, eD, pr, hn, inj⟩ ⟨rfl, m, hm, rfl⟩
    have mno := not_take nd hm
    have mne : ∀ y ∈ ms.take t, y ≠ m := fun y hy z => mno (by rw [← z]; exact hy)
    have pl : ps.length = t := by rw [pr.length, List.length_take]; omega
    refine ⟨wipe1 _ _ _, .str m, by simp [wipe, List.getElem?_set, hj], Nat.zero_le _, fun l nl => ?_⟩
    refine ⟨(by show 2 ≤ sizeLine; decide), fun o no => ⟨ps.map V.ref, ?_, ?_, ?_, ps ++ [o], pad ad m l, ?_, ?_, ?_, ?_⟩⟩
    · rw [upd_ne (ne_of_none (same_new nl _ _ eD) no), upd_ne (ne_of_none eD nl)]
      exact eD
    · rw [List.length_map, pl]
      exact sz (by omega)
    · exact same_mut ((s1.trans (same_new nl)).trans (same_new no)) nD
    · rw [upd_same, List.map_append]; rfl
    · -- the pairs
      have nlo : l ≠ o := fun z => by subst z; rw [upd_same] at no; cases no
      have noD : o ≠ D := fun z => by
        subst z
        rw [upd_ne (ne_of_none eD nl), eD] at no
        cases no
      rw [take_snoc hm]
      refine Paired.snoc ?_ ?_
      · have hadd : ∀ x ∈ ms.take t, pad ad m l x = ad x := fun x hx => pad_ne (mne x hx)
        have st : ∀ b w, H1 b = some w → b ≠ D → (upd (upd (upd H1 l (.lst [])) o (.tup [.str m, .ref l])) D (.lst (ps.map V.ref ++ [.ref o]))) b = some w := fun b w e n => by
          rw [upd_ne n, upd_ne (ne_of_none (same_new nl _ _ e) no), upd_ne (ne_of_none e nl)]
          exact e
        have st2 : ∀ b w, H1 b = some (.tup w) → (upd (upd (upd H1 l (.lst [])) o (.tup [.str m, .ref l])) D (.lst (ps.map V.ref ++ [.ref o]))) b = some (.tup w) := fun b w e => st b _ e (ne_of e eD (fun z => by cases z))
        generalize upd (upd (upd H1 l (.lst [])) o (.tup [.str m, .ref l])) D (.lst (ps.map V.ref ++ [.ref o])) = H9 at st2
        clear hn inj pl st eD mne mno
        generalize ms.take t = zs at pr hadd
        induction pr with
        | nil => exact .nil
        | cons h0 _ ih =>
          refine .cons ?_ (ih fun x hx => hadd x (List.mem_cons_of_mem _ hx))
          rw [hadd _ List.mem_cons_self]
          exact st2 _ _ h0
      · show (upd (upd (upd H1 l (.lst [])) o (.tup [.str m, .ref l])) D (.lst (ps.map V.ref ++ [.ref o]))) o = some (.tup [.str m, .ref (pad ad m l m)])
        rw [upd_ne noD, upd_same, pad_same]
    · intro y hy
      rw [take_snoc hm] at hy
      have nlo : l ≠ o := fun z => by subst z; rw [upd_same] at no; cases no
      have nlD : l ≠ D := Ne.symm (ne_of_none eD nl)
      rcases List.mem_append.mp hy with hy | hy
      · obtain ⟨h1, h2, h3⟩ := hn y hy
        rw [pad_ne (mne y hy)]
        refine ⟨?_, h2, h3⟩
        rw [upd_ne h3, upd_ne (ne_of_none (same_new nl _ _ h1) no), upd_ne (ne_of_none h1 nl)]
        exact h1
      · cases List.mem_singleton.mp hy
        rw [pad_same]
        refine ⟨?_, s1.free nl, nlD⟩
        rw [upd_ne nlD, upd_ne nlo, upd_same]
    · intro u hu v hv e
      rw [take_snoc hm] at hu hv
      rcases List.mem_append.mp hu with hu | hu <;> rcases List.mem_append.mp hv with hv | hv
      · rw [pad_ne (mne u hu), pad_ne (mne v hv)] at e
        exact inj u hu v hv e
      · cases List.mem_singleton.mp hv
        rw [pad_ne (mne u hu), pad_same] at e
        have := (hn u hu).1
        rw [e, nl] at this
        cases this
      · cases List.mem_singleton.mp hu
        rw [pad_ne (mne v hv), pad_same] at e
        have := (hn v hv).1
        rw [← e, nl] at this
        cases this
      · rw [List.mem_singleton.mp hu, List.mem_singleton.mp hv]
  · rintro H1 ⟨s1, ps, ad, eD, pr, hn, inj⟩
    rw [List.take_of_length_le (Nat.le_refl _)] at pr hn inj
    refine ⟨D, ps, mkv ms ad, rfl, sqL eD, ?_, fun d nd' => ?_⟩
    · clear hn inj q hl nd ha eD
      induction pr with
      | nil => exact .nil
      | cons h0 _ ih => exact .cons (sqT h0) ih
    · have em : mergeK [] (mkv ms ad) = mkv ms ad := merge_mkd _ ms [] (by simpa using nd)
      rw [em]
      exact q _ d ad (s1.trans (same_new nd')) ⟨⟨upd_same, fun m hm => by rw [upd_ne (ne_of_none (hn m hm).1 nd')]; exact (hn m hm).1⟩, s1.free nd', fun m hm => (hn m hm).2.1, inj⟩
def spLists : Sp := fun vs H Q _ => ∃ (a b : Addr) (ms h : List Str), vs = [.ref a, .ref b] ∧ H a = some (.lst (sv ms)) ∧ H b = some (.lst (sv h)) ∧ ms.Nodup ∧ ms.length ≤ 1000 ∧ h.length ≤ 1000 ∧ (∀ x ∈ h, x ∈ ms) ∧
  ∀ H' d ad, Same H H' → DN H H' d ms ad (fun m => givers m h) → Q (.ref d) H'
section
variable {P : Program} {w : World} {K : PySem.W.Frag} {mg : Str → Option Value} {base : Heap} (T : Txt K mg)
theorem ok_l_lists : FnOk P w K mg base CX0 1 T.f_l_lists T.fd_l_lists ["_law_members_here", "_law_history"] spLists := by
  refine T.F_l_lists.ok sc_l_lists (fun vs H Q E h => ?_) (fun cdv A outer s H vs Q E hr h => ?_)
  · obtain ⟨a, b, ms, h, rfl, _⟩ := h
    rfl
  · obtain ⟨a, b, ms, h, rfl, ha, hb, mnd, ml, hl, hmem, q⟩ := h
    have hu := hu_of (k := 0) hr
    have nd := sc_l_lists.nd
    refine ⟨_, pss_cons (ps_set (i := 2) nd rfl (.inl rfl) (pe_callTy (call_dictK rfl) (by rfl) T.z_dict (by decide +kernel) (pa_cons
        (pe_lc (own := [("_law_member", 4)]) (g := gName 4) (tt := tYes) rfl nd (pi_list (pv 0)) (blkOk_by (N := ["_law_members_here", "_law_history", "_law_found", "_law_at", "_law_member"]) (sc := defScope s_l_lists) (by decide +kernel)) (fun _ _ _ _ _ => pg_name (i := 4) nd rfl (.inl rfl)) (fun _ _ _ _ _ => pts_nil)
          (fun _ _ _ _ _ => pe_tup (pa_cons (pv 4) (pa_cons (pe_lst pa_nil) pa_nil)))) pa_nil)))
      (pss_cons (ps_for PassesOwn.never rfl (pi_range2 (by rfl) T.z_range (pa_cons pe_int (pa_cons (pe_callB call_lenK (by rfl) T.z_len PySem.boot_len (pa_cons (pv 1) pa_nil)) pa_nil))) (pg_name (i := 3) nd rfl (.inl rfl))
        (pss_one (ps_expr (pe_bm PySem.F.plainAttrs_list PySem.F.slot_list_append PySem.F.type_list_append mt_append (pe_dget hu (pv 2) (pe_ix ix_list (pv 1) (pv 3) (fun _ _ => rfl)) (fun _ _ => rfl)) (pa_cons (pe_ix ix_list (pv 1) (pe_op op_sub (pv 3) pe_int) (fun _ _ => rfl)) pa_nil)))))
      (pss_one (ps_ret (pv 2)))), ?_⟩
    refine dict_lists (i := 0) (j := 4) rfl (by show 4 < 5; decide) ha mnd ml fun H1 d ad s1 dn => ?_
    refine ⟨.ref b, rfl, b, sv h, rfl, .inl (sqL (s1 _ _ hb)), 1, _, rfl, ⟨by omega, by omega, by omega, by rw [List.length_map]; omega⟩, ?_⟩
    have en : (((sv h).length : Int) - 1).toNat = h.length - 1 := by rw [List.length_map]; omega
    rw [en]
    refine for_it (walk_range (lo := 1)) (fun t σ H2 => ∃ x3, σ = [some (.ref a), some (.ref b), some (.ref d), x3, none] ∧ Same H H2 ∧ DN H H2 d ms ad (fun m => givers m (h.take (t + 1)))) ?_ (fun _ _ _ _ _ => True.intro) ?_ ?_
    · refine ⟨none, rfl, s1, dn.congr fun m _ => ?_⟩
      cases h with
      | nil => rfl
      | cons x r => rfl
    · rintro t x σ H2 H3 ht ⟨x3, rfl, s2, dn2⟩ ⟨rfl, rfl⟩
      have t1 : t + 1 < h.length := by omega
      have e1 : h[t + 1]? = some h[t + 1] := List.getElem?_eq_getElem t1
      have e0 : h[t]? = some h[t] := List.getElem?_eq_getElem (by omega)
      have hm : h[t + 1] ∈ ms := hmem _ (List.getElem_mem t1)
      have gl := givers_len h[t + 1] (h.take (t + 1))
      have gl2 : (h.take (t + 1)).length ≤ 1000 := by rw [List.length_take]; omega
      refine ⟨.ref d, rfl, .ref b, rfl, _, rfl, b, sv h, _, .str h[t + 1], rfl, rfl, sqL (s2 _ _ hb), at_of (j := t + 1) (by omega) (sv_get e1), d, .ref (ad h[t + 1]), rfl, dn2.dl.get hm, .inl ⟨rfl, _, sqL (dn2.dl.at_ _ hm)⟩,
        .ref b, rfl, _, rfl, _, _, rfl, rfl, b, sv h, _, .str h[t], rfl, rfl, sqL (s2 _ _ hb), at_of (j := t) (by omega) (sv_get e0), ad h[t + 1], sv (givers h[t + 1] (h.take (t + 1))), .str h[t], rfl, rfl, dn2.dl.at_ _ hm, ?_, ?_⟩
      · rw [List.length_map]
        exact sz (by omega)
      · refine ⟨some (.int (1 + (t : Int))), rfl, same_mut s2 (dn2.new _ hm), ?_⟩
        have es : sv (givers h[t + 1] (h.take (t + 1))) ++ [V.str h[t]] = sv (givers h[t + 1] (h.take (t + 1)) ++ [h[t]]) := by simp
        rw [es]
        refine (dn2.set hm).congr fun m _ => ?_
        have et : h.take (t + 1) = h.take t ++ [h[t]] := take_snoc e0
        have et2 : h.take (t + 1 + 1) = h.take t ++ [h[t], h[t + 1]] := by rw [take_snoc e1, et, List.append_assoc]; rfl
        rw [et2, givers_snoc, ← et]
        by_cases e : m = h[t + 1]
        · subst e
          rw [put_same, if_pos rfl]
        · rw [put_ne e, if_neg (Ne.symm e), List.append_nil]
    · rintro σ H2 ⟨x3, rfl, s2, dn2⟩
      refine ⟨.ref d, rfl, q _ d ad s2 (dn2.congr fun m _ => ?_)⟩
      rw [List.take_of_length_le (by omega)]
end
theorem keep_mut {W : List Addr} {H H1 : Hp} {p : Addr} {o : HO} (k : Keep W H H1) (h : H p = none) : Keep W H (upd H1 p o) := fun b u e n => by
  rw [upd_ne (ne_of_none e h)]
  exact k b u e n
/-- the members but one -/
def oth (ms : List Str) (y : Str) : List Str := ms.filter fun m => !decide (m = y)
theorem mem_oth {ms : List Str} {y x : Str} : x ∈ oth ms y ↔ x ∈ ms ∧ x ≠ y := by simp [oth]
theorem oth_two {ms : List Str} {y : Str} (nd : ms.Nodup) (h : 2 ≤ ms.length) : oth ms y ≠ [] := fun e => by
  have all : ∀ x ∈ ms, x = y := fun x hx => Decidable.byContradiction fun n => by
    have := mem_oth.mpr ⟨hx, n⟩
    rw [e] at this
    cases this
  cases ms with
  | nil => simp at h
  | cons a r =>
    cases r with
    | nil => simp at h
    | cons b r =>
      have e1 := all a (by simp)
      have e2 := all b (by simp)
      subst e1
      subst e2
      simp at nd
theorem last2 {ms h : List Str} {y : Str} (g : Hist ms h) (hy : h.getLast? = some y) (h2 : 1 < h.length) : ∃ x, atI (sv h) (-2) = some (.str x) ∧ x ∈ oth ms y := by
  have hx : h[h.length - 2]? = some (h[h.length - 2]'(by omega)) := List.getElem?_eq_getElem (by omega)
  have hy' : h[h.length - 2 + 1]? = some y := by
    rw [show h.length - 2 + 1 = h.length - 1 by omega, ← List.getLast?_eq_getElem?]
    exact hy
  refine ⟨h[h.length - 2]'(by omega), ?_, mem_oth.mpr ⟨g.mem _ (List.getElem_mem _), g.adj _ _ _ hx hy'⟩⟩
  unfold atI
  have e : ixN (sv h).length (-2) = some (h.length - 2) := by
    unfold ixN
    rw [List.length_map, if_neg (by decide), if_pos (by omega)]
    congr 1
    omega
  rw [e]
  exact sv_get hx
/-- a draw from a list of names -/
theorem mem_sv {l : List Str} {v : V} (h : v ∈ sv l) : ∃ x ∈ l, v = .str x := by
  obtain ⟨x, hx, e⟩ := List.mem_map.mp h
  exact ⟨x, hx, e.symm⟩
/-- a statement by what its value may be -/
theorem asg_val {te : TE} {g : TG} {D : Ends} {σ : L2.St} {H : Hp} (good : V → Hp → Prop) (h : ∀ Q : VK, (∀ v H', good v H' → Q v H') → te σ H Q) (k : ∀ v H', good v H' → g v σ H' D.nx) : tAsg te g D σ H := h _ k
theorem oth_pick {ms : List Str} {y : Str} {v1 v2 : V} {r : Int} (h1 : v1 ∈ sv (oth ms y)) (h2 : v2 ∈ sv (oth ms y)) (r0 : 0 ≤ r) (r2 : r < 2) : ∃ v, atI [v1, v2] r = some v ∧ v ∈ sv (oth ms y) := by
  rcases (by omega : r = 0 ∨ r = 1) with rfl | rfl
  · exact ⟨v1, rfl, h1⟩
  · exact ⟨v2, rfl, h2⟩
theorem oth_pick4 {ms : List Str} {y : Str} {v1 v2 v3 v4 : V} {r : Int} (h1 : v1 ∈ sv (oth ms y)) (h2 : v2 ∈ sv (oth ms y)) (h3 : v3 ∈ sv (oth ms y)) (h4 : v4 ∈ sv (oth ms y)) (r0 : 0 ≤ r) (r2 : r < 4) : ∃ v, atI [v1, v2, v3, v4] r = some v ∧ v ∈ sv (oth ms y) := by
  rcases (by omega : r = 0 ∨ r = 1 ∨ r = 2 ∨ r = 3) with rfl | rfl | rfl | rfl
  · exact ⟨v1, rfl, h1⟩
  · exact ⟨v2, rfl, h2⟩
  · exact ⟨v3, rfl, h3⟩
  · exact ⟨v4, rfl, h4⟩
theorem idx_at {ms : List Str} (nd : ms.Nodup) {y : Str} (h : y ∈ ms) : ∃ j : Nat, (sv ms)[j]? = some (.str y) ∧ eqV (.str y) (.str y) = true ∧ ∀ (m : Nat) (z : V), m < j → (sv ms)[m]? = some z → eqV z (.str y) = false := by
  obtain ⟨j, hj, e⟩ := List.getElem_of_mem h
  refine ⟨j, sv_get (by rw [List.getElem?_eq_getElem hj, e]), by rw [eqV_str]; simp, fun m z hm hz => ?_⟩
  obtain ⟨x, hx, rfl⟩ := sv_get' hz
  rw [eqV_str]
  refine decide_eq_false fun k => ?_
  subst k
  have := nd_ix nd hx (show ms[j]? = some x by rw [List.getElem?_eq_getElem hj, e])
  omega
def spWalk : Sp := fun vs H Q _ => ∃ (b a hh : Addr) (ms h : List Str) (many : Nat) (style : Int) (n : Nat), vs = [.ref b, .ref a, .ref hh, .int many, .int style] ∧ H a = some (.lst (sv ms)) ∧ H hh = some (.lst (sv h)) ∧ Members ms ∧ Hist ms h ∧
  h.length + many ≤ 500 ∧ 0 ≤ style ∧ style < 4 ∧ Bag H b n ∧ n + 6 * many ≤ 1000000000 ∧ b ≠ a ∧ b ≠ hh ∧
  ∀ H' p e, Keep [b] H H' → Bag H' b (n + 6 * many) → H p = none → H' p = some (.lst (sv (h ++ e))) → Hist ms (h ++ e) → e.length ≤ many → (2 ≤ ms.length → e.length = many) → Q (.ref p) H'
section
variable {P : Program} {w : World} {K : PySem.W.Frag} {mg : Str → Option Value} {base : Heap} (T : Txt K mg)
theorem ok_l_walk : FnOk P w K mg base CX0 3 T.f_l_walk T.fd_l_walk ["_law_bag_here", "_law_members_here", "_law_history", "_law_many", "_law_style"] spWalk := by
  have GT : FnOk P w K mg base CX0 1 T.f_l_take T.fd_l_take ["_law_bag_here", "_law_many"] spTake := ok_take T
  have GP : FnOk P w K mg base CX0 2 T.f_l_pick T.fd_l_pick ["_law_bag_here", "_law_values"] spPick := ok_pick T
  refine T.F_l_walk.ok sc_l_walk (fun vs H Q E h => ?_) (fun cdv A outer s H vs Q E hr h => ?_)
  · obtain ⟨b, a, hh, ms, h, many, style, n, rfl, _⟩ := h
    rfl
  · obtain ⟨b, a, hh, ms, h, many, style, n, rfl, ha, hhh, M, g, hl, st0, st4, B, hn, nba, nbh, q⟩ := h
    have hr1 : Room 1 _ := hr.mono (by decide)
    have hu64 : Around.units _ + 64 < cLine := hr.units
    have nd := sc_l_walk.nd
    refine ⟨_, pss_cons (ps_set (i := 5) nd rfl (.inr rfl) (pe_callTy call_listK (by rfl) T.z_list (by decide +kernel) (pa_cons (pv 2) pa_nil)))
      (pss_cons (ps_for PassesOwn.never rfl (pi_range1 (by rfl) T.z_range (pa_cons (pv 3) pa_nil)) (pg_name (i := 6) nd rfl (.inl rfl))
        (pss_cons (ps_setLc (i := 7) (own := [("_law_member", 11)]) (g := gName 11) (tt := tTest (tOp rNe (tVar 11) (tOp (rIxL K) (tVar 5) (tUn (rU fun i => .int (-i)) (tC (.int 1)))))) rfl nd rfl rfl (sw_true rfl rfl rfl (by decide +kernel)) (pi_list (pv 1))
            (blkOk_by (N := ["_law_bag_here", "_law_members_here", "_law_history", "_law_many", "_law_style", "_law_found", "_law_turn", "_law_others", "_law_back", "_law_after", "_law_some", "_law_member"]) (sc := defScope s_l_walk) (by decide +kernel)) (fun _ _ _ _ _ => pg_name (i := 11) nd rfl (.inl rfl))
            (fun _ _ _ _ _ => pts_one (pt_cmpR op_ne (pv 11) (pe_ix ix_list (pv 5) (pe_un un_neg pe_int) (fun _ _ => rfl)) (nomark _))) (fun _ _ _ _ _ => pv 11))
        (pss_one (ps_if (pt_cmpR (op_neD hu64) (pv 7) (pe_lst pa_nil) (nomark _))
          (pss_cons (ps_set (i := 8) nd rfl (.inl rfl) (pe_ifExp (pt_cmpR op_gt (pe_callB call_lenK (by rfl) T.z_len PySem.boot_len (pa_cons (pv 5) pa_nil)) pe_int (nomark _)) (pe_ix ix_list (pv 5) (pe_un un_neg pe_int) (fun _ _ => rfl)) (pe_ix ix_list (pv 7) pe_int (fun _ _ => rfl))))
          (pss_cons (ps_set (i := 9) nd rfl (.inl rfl) (pe_ix ix_list (pv 7) (pe_op op_mod (pe_bm PySem.F.plainAttrs_list PySem.F.slot_list_index PySem.F.type_list_index mt_index (pv 1) (pa_cons (pe_ix ix_list (pv 5) (pe_un un_neg pe_int) (fun _ _ => rfl)) pa_nil)) (pe_callB call_lenK (by rfl) T.z_len PySem.boot_len (pa_cons (pv 7) pa_nil))) (fun _ _ => rfl)))
          (pss_cons (ps_set (i := 10) nd rfl (.inl rfl) (pe_lst (pa_cons (pe_call GP hr (by rfl) T.g_l_pick T.F_l_pick.kp T.b_l_pick .nil pass0 (pa_cons (pv 0) (pa_cons (pv 7) pa_nil)))
            (pa_cons (pe_ix ix_list (pe_lst (pa_cons (pv 8) (pa_cons (pe_call GP hr (by rfl) T.g_l_pick T.F_l_pick.kp T.b_l_pick .nil pass0 (pa_cons (pv 0) (pa_cons (pv 7) pa_nil))) pa_nil))) (pe_call GT hr1 (by rfl) T.g_l_take T.F_l_take.kp T.b_l_take .nil pass0 (pa_cons (pv 0) (pa_cons pe_int pa_nil))) (fun _ _ => rfl))
            (pa_cons (pv 9) (pa_cons (pe_ix ix_list (pv 7) pe_int (fun _ _ => rfl)) pa_nil))))))
          (pss_one (ps_expr (pe_bm PySem.F.plainAttrs_list PySem.F.slot_list_append PySem.F.type_list_append mt_append (pv 5) (pa_cons
            (pe_ix ix_list (pe_lst (pa_cons (pe_ix ix_list (pv 10) (pv 4) (fun _ _ => rfl)) (pa_cons (pe_call GP hr (by rfl) T.g_l_pick T.F_l_pick.kp T.b_l_pick .nil pass0 (pa_cons (pv 0) (pa_cons (pv 7) pa_nil))) pa_nil)))
              (pe_callTy call_int1 (by rfl) T.z_int (by decide +kernel) (pa_cons (pe_cmpR op_eq (pe_call GT hr1 (by rfl) T.g_l_take T.F_l_take.kp T.b_l_take .nil pass0 (pa_cons (pv 0) (pa_cons pe_int pa_nil))) pe_int (nomark _)) pa_nil)) (fun _ _ => rfl)) pa_nil)))))))
          pss_nil))))
      (pss_one (ps_ret (pv 5)))), ?_⟩
    refine ⟨.ref hh, rfl, hh, sv h, rfl, .inl (sqL hhh), fun f nf => ?_⟩
    obtain ⟨xs0, hb0⟩ := B.lst
    have nbf : b ≠ f := ne_of_none hb0 nf
    refine ⟨_, rfl, many, rfl, by omega, by omega, ?_⟩
    rw [show ((many : Int)).toNat = many from rfl]
    refine for_it (walk_range (lo := 0)) (fun t σ H1 => ∃ (e : List Str) (x6 x7 x8 x9 x10 : Option V), σ = [some (.ref b), some (.ref a), some (.ref hh), some (.int many), some (.int style), some (.ref f), x6, x7, x8, x9, x10, none] ∧ Keep [b] H H1 ∧ Bag H1 b (n + 6 * t) ∧
      H1 f = some (.lst (sv (h ++ e))) ∧ Hist ms (h ++ e) ∧ e.length ≤ t ∧ (2 ≤ ms.length → e.length = t)) ?_ (fun _ _ _ _ _ => True.intro) ?_ ?_
    · refine ⟨[], none, none, none, none, none, rfl, keep_new nf, B.keep (W := []) (keep_new nf) (by simp), ?_, by simpa using g, by simp, by simp⟩
      rw [upd_same]; simp
    · rintro t x σ H1 H2 ht ⟨e, x6, x7, x8, x9, x10, rfl, k1, B1, hf, g1, el, e2⟩ ⟨rfl, rfl⟩
      obtain ⟨y, hy⟩ : ∃ y, (h ++ e).getLast? = some y := ⟨_, List.getLast?_eq_getLast g1.ne⟩
      have ym : y ∈ ms := g1.mem y (List.mem_of_getLast? hy)
      have ha2 := k1 _ _ ha (by simpa using Ne.symm nba)
      have okn : ∀ x ∈ oth ms y, PyData.strOk x = true := fun x hx => nameB_ok (M.nm x (mem_oth.mp hx).1)
      have hlen : (h ++ e).length ≤ 500 := by rw [List.length_append]; omega
      -- others = ..
      refine ⟨.ref a, rfl, a, rfl, ⟨_, sqL ha2⟩, fun o no => lc_it (walk_sv ms) (fun i H3 => Same H2 H3 ∧ H3 o = some (.lst (sv (oth (ms.take i) y)))) ⟨same_new no, by rw [upd_same]; rfl⟩ (fun i H3 _ p => sqL (p.1 _ _ ha2)) ?_ ?_⟩
      · rintro i v H0 H3 hi ⟨s3, eo⟩ ⟨rfl, m, hm, rfl⟩
        refine ⟨rfl, .str m, rfl, .ref f, rfl, 1, rfl, f, sv (h ++ e), -1, .str y, rfl, rfl, sqL (s3 _ _ hf), getLast_at hy, rfl, _, rfl, ?_⟩
        have eot : oth (ms.take (i + 1)) y = oth (ms.take i) y ++ (if m = y then [] else [m]) := by
          rw [take_snoc hm]
          unfold oth
          rw [List.filter_append]
          by_cases z : m = y <;> simp [z]
        by_cases z : m = y
        · rw [decide_eq_true (by rw [z])]
          refine iteF ⟨s3, ?_⟩
          rw [eot, if_pos z, List.append_nil]
          exact eo
        · rw [decide_eq_false (fun q => z (V.str.inj q))]
          refine iteT ⟨.str m, rfl, sv (oth (ms.take i) y), eo, ?_, same_mut s3 no, ?_⟩
          · have := M.hi
            have l1 : (oth (ms.take i) y).length ≤ (ms.take i).length := List.length_filter_le _ _
            rw [List.length_take] at l1
            rw [List.length_map]
            exact sz (by omega)
          · rw [upd_same, eot, if_neg z]; simp
      · rintro H3 ⟨s3, eo⟩
        rw [List.take_of_length_le (Nat.le_refl _)] at eo
        have hf3 := s3 _ _ hf
        have k3 := k1.trans (Keep.of_same s3)
        have B3 : Bag H3 b (n + 6 * t) := B1.keep (W := []) (Keep.of_same s3) (by simp)
        have nof : o ≠ f := fun z => by subst z; rw [hf] at no; cases no
        obtain ⟨xs2, hb2⟩ := B1.lst
        have nob : o ≠ b := fun z => by subst z; rw [hb2] at no; cases no
        refine ⟨.ref o, rfl, Nat.zero_le _, fun z nz => ?_⟩
        have s4 : Same H3 (upd H3 z (.lst [])) := same_new nz
        refine ⟨_, _, dp_strs (sqL (s4 _ _ eo)), dp_strs (l := []) (sqL upd_same), shaped_strs okn, shaped_strs (fun _ w => by cases w), _, rfl, ?_⟩
        rw [eqv_strs]
        by_cases ho : oth ms y = []
        · rw [decide_eq_true ho]
          refine iteF ?_
          refine ⟨e, _, _, x8, x9, x10, rfl, k3.trans (Keep.of_same s4), (B3.keep (W := []) (Keep.of_same s4) (by simp)).mono (by omega), s4 _ _ hf3, g1, by omega, fun q => absurd ho (oth_two M.nd q)⟩
        · rw [decide_eq_false ho]
          refine iteT ?_
          generalize hH4 : upd H3 z (.lst []) = H4 at s4
          have ho4 := s4 _ _ eo
          have hf4 := s4 _ _ hf3
          have k4 := k3.trans (Keep.of_same s4)
          have B4 : Bag H4 b (n + 6 * t) := B3.keep (W := []) (Keep.of_same s4) (by simp)
          have ol : 1 ≤ (oth ms y).length := by
            cases hq : oth ms y with
            | nil => exact absurd hq ho
            | cons _ _ => simp
          have ol2 : (oth ms y).length ≤ 12 := Nat.le_trans (List.length_filter_le _ _) M.hi
          have h0 : (sv (oth ms y))[0]? = some (.str ((oth ms y)[0]'(by omega))) := sv_get (List.getElem?_eq_getElem (by omega))
          have m0 : V.str ((oth ms y)[0]'(by omega)) ∈ sv (oth ms y) := List.mem_map.mpr ⟨_, List.getElem_mem _, rfl⟩
          -- back = ..
          refine asg_val (fun v H' => H' = H4 ∧ v ∈ sv (oth ms y)) (fun Q k => ?_) ?_
          · refine ⟨.ref f, rfl, f, sv (h ++ e), rfl, .inl (sqL hf4), _, 1, rfl, rfl, _, rfl, ite2 (fun l => ?_) (fun l => ?_)⟩
            · have l2 : 1 < (h ++ e).length := by have := of_decide_eq_true l; rw [List.length_map] at this; omega
              obtain ⟨xb, b1, b2⟩ := last2 g1 hy l2
              exact ⟨.ref f, rfl, 2, rfl, f, sv (h ++ e), -2, .str xb, rfl, rfl, sqL hf4, b1, k _ _ ⟨rfl, List.mem_map.mpr ⟨xb, b2, rfl⟩⟩⟩
            · exact ⟨.ref o, rfl, o, _, 0, _, rfl, rfl, sqL ho4, atI_nat (j := 0) h0, k _ _ ⟨rfl, m0⟩⟩
          rintro vb H' ⟨rfl, hvb⟩
          -- after = ..
          obtain ⟨j, j1, j2, j3⟩ := idx_at M.nd ym
          have ha4 := s4 _ _ (s3 _ _ ha2)
          have hjo : ((j : Int) % ((sv (oth ms y)).length : Int)).toNat < (oth ms y).length := by
            have q1 := Int.emod_lt_of_pos (j : Int) (show (0 : Int) < ((sv (oth ms y)).length : Int) by rw [List.length_map]; omega)
            have q0 := Int.emod_nonneg (j : Int) (show ((sv (oth ms y)).length : Int) ≠ 0 by rw [List.length_map]; omega)
            rw [List.length_map] at q1 q0 ⊢
            omega
          have hjn : 0 ≤ (j : Int) % ((sv (oth ms y)).length : Int) := Int.emod_nonneg _ (by rw [List.length_map]; omega)
          refine ⟨.ref o, rfl, .ref a, rfl, .inl ⟨rfl, _, sqL ha4⟩, .ref f, rfl, 1, rfl, f, sv (h ++ e), -1, .str y, rfl, rfl, sqL hf4, getLast_at hy, a, sv ms, .str y, j, .str y, rfl, rfl, sqL ha4, rfl, flat_sv ms, j1, j2, j3,
            .ref o, rfl, o, _, rfl, .inl (sqL ho4), _, _, rfl, rfl, (by show (0 : Int) < ((sv (oth ms y)).length : Int); rw [List.length_map]; omega), o, _, _, .str ((oth ms y)[((j : Int) % ((sv (oth ms y)).length : Int)).toNat]'hjo), rfl, rfl, sqL ho4, at_of (j := ((j : Int) % ((sv (oth ms y)).length : Int)).toNat) (by omega) (sv_get (List.getElem?_eq_getElem hjo)), ?_⟩
          have mA : V.str ((oth ms y)[((j : Int) % ((sv (oth ms y)).length : Int)).toNat]'hjo) ∈ sv (oth ms y) := List.mem_map.mpr ⟨_, List.getElem_mem _, rfl⟩
          generalize V.str ((oth ms y)[((j : Int) % ((sv (oth ms y)).length : Int)).toNat]'hjo) = va at mA
          -- some = [..]
          have lsv : 1 ≤ (sv (oth ms y)).length := by rw [List.length_map]; exact ol
          have lsv2 : (sv (oth ms y)).length ≤ 1000000 := by rw [List.length_map]; omega
          refine ⟨.ref b, rfl, .ref o, rfl, b, o, sv (oth ms y), n + 6 * t, rfl, ho4, lsv, lsv2, nob, B4, by omega, fun H5 v1 k5 B5 m1 => ?_⟩
          have ho5 := k5 _ _ ho4 (by simpa using nob)
          have hf5 := k5 _ _ hf4 (by simpa using Ne.symm nbf)
          refine ⟨vb, rfl, .ref b, rfl, .ref o, rfl, b, o, sv (oth ms y), n + 6 * t + 1, rfl, ho5, lsv, lsv2, nob, B5, by omega, fun H6 v2 k6 B6 m2 => ?_⟩
          have ho6 := k6 _ _ ho5 (by simpa using nob)
          have hf6 := k6 _ _ hf5 (by simpa using Ne.symm nbf)
          refine ⟨(by show 2 ≤ sizeLine; decide), fun l nl => ?_⟩
          have nbl : b ≠ l := by obtain ⟨x, hx⟩ := B6.lst; exact ne_of_none hx nl
          have B7 : Bag (upd H6 l (.lst [vb, v2])) b (n + 6 * t + 1 + 1) := B6.keep (W := []) (keep_new nl) (by simp)
          refine ⟨.ref b, rfl, b, 2, _, rfl, by decide, by decide, B7, by omega, fun H8 r k8 B8 r0 r2 => ?_⟩
          obtain ⟨v3, e3, m3⟩ := oth_pick hvb m2 r0 r2
          have hl8 : H8 l = some (.lst [vb, v2]) := k8 _ _ upd_same (by simpa using Ne.symm nbl)
          have ho8 := k8 _ _ (same_new nl _ _ ho6) (by simpa using nob)
          have hf8 := k8 _ _ (same_new nl _ _ hf6) (by simpa using Ne.symm nbf)
          refine ⟨l, _, r, v3, rfl, rfl, sqL hl8, e3, va, rfl, .ref o, rfl, o, _, 0, _, rfl, rfl, sqL ho8, atI_nat (j := 0) h0, (by show 4 ≤ sizeLine; decide), fun l4 nl4 => ?_⟩
          have nbl4 : b ≠ l4 := by obtain ⟨x, hx⟩ := B8.lst; exact ne_of_none hx nl4
          generalize hH9 : upd H8 l4 (.lst [v1, v3, va, V.str ((oth ms y)[0]'(by omega))]) = H9
          have s9 : Same H8 H9 := by rw [← hH9]; exact same_new nl4
          have h49 : H9 l4 = some (.lst [v1, v3, va, V.str ((oth ms y)[0]'(by omega))]) := by rw [← hH9, upd_same]
          have ho9 := s9 _ _ ho8
          have hf9 := s9 _ _ hf8
          have B9 : Bag H9 b (n + 6 * t + 1 + 1 + 1) := B8.keep (W := []) (Keep.of_same s9) (by simp)
          obtain ⟨v5, e5, m5⟩ := oth_pick4 m1 m3 mA m0 st0 st4
          -- found.append(..)
          refine ⟨.ref f, rfl, .inl ⟨rfl, _, sqL hf9⟩, .ref l4, rfl, _, rfl, l4, _, style, v5, rfl, rfl, sqL h49, e5,
            .ref b, rfl, .ref o, rfl, b, o, sv (oth ms y), n + 6 * t + 1 + 1 + 1, rfl, ho9, lsv, lsv2, nob, B9, by omega, fun H10 v6 k10 B10 m6 => ?_⟩
          have hf10 := k10 _ _ hf9 (by simpa using Ne.symm nbf)
          refine ⟨(by show 2 ≤ sizeLine; decide), fun l5 nl5 => ?_⟩
          have nbl5 : b ≠ l5 := by obtain ⟨x, hx⟩ := B10.lst; exact ne_of_none hx nl5
          have B11 : Bag (upd H10 l5 (.lst [v5, v6])) b (n + 6 * t + 1 + 1 + 1 + 1) := B10.keep (W := []) (keep_new nl5) (by simp)
          refine ⟨.ref b, rfl, b, 4, _, rfl, by decide, by decide, B11, by omega, fun H12 r' k12 B12 r0' r2' => ?_⟩
          have hl12 : H12 l5 = some (.lst [v5, v6]) := k12 _ _ upd_same (by simpa using Ne.symm nbl5)
          have hf12 := k12 _ _ (same_new nl5 _ _ hf10) (by simpa using Ne.symm nbf)
          obtain ⟨v7, e7, m7⟩ := oth_pick (r := if decide (V.int r' = V.int 0) then 1 else 0) m5 m6 (by split <;> decide) (by split <;> decide)
          obtain ⟨x, hx, rfl⟩ := mem_sv m7
          obtain ⟨xm, xy⟩ := mem_oth.mp hx
          refine ⟨rfl, .inr ⟨_, rfl, l5, [v5, v6], _, .str x, rfl, rfl, sqL hl12, e7, f, sv (h ++ e), .str x, rfl, rfl, hf12, ?_, ?_⟩⟩
          · rw [List.length_map]
            exact sz (by omega)
          have k6' : Keep [b] H H12 := (k4.trans (k5.trans (k6.trans ((keep_new nl).trans (k8.trans ((Keep.of_same s9).trans (k10.trans ((keep_new nl5).trans k12))))))))
          have es : sv (h ++ e) ++ [V.str x] = sv (h ++ (e ++ [x])) := by simp
          rw [es]
          refine ⟨e ++ [x], _, _, _, _, _, rfl, keep_mut k6' nf, (B12.keep (W := [f]) (keep_upd (by simp)) (by simpa using nbf)).mono (by omega), by rw [upd_same], ?_, by rw [List.length_append, List.length_singleton]; omega, fun q => by rw [List.length_append, List.length_singleton, e2 q]⟩
          rw [← List.append_assoc]
          exact g1.snoc hy xm xy
    · rintro σ H1 ⟨e, x6, x7, x8, x9, x10, rfl, k1, B1, hf, g1, el, e2⟩
      exact ⟨.ref f, rfl, q _ f e k1 B1 nf hf g1 el e2⟩
end
/-- dict([(m, e) for m in ms]), e a plain value -/
theorem dict_vals {K : PySem.W.Frag} {σ : L2.St} {H : Hp} {Q : VK} {te : TE} {i j : Nat} {a : Addr} {ms : List Str} (v : Str → V) (hi : σ[i]? = some (some (.ref a))) (hj : j < σ.length) (ha : H a = some (.lst (sv ms))) (nd : ms.Nodup) (hl : ms.length ≤ 1000)
    (hte : ∀ (m : Str) (H1 : Hp) (Q : VK), m ∈ ms → Same H H1 → Q (v m) H1 → te ((wipe σ [j]).set j (some (.str m))) H1 Q)
    (q : ∀ H' d, Same H H' → H' d = some (.dK (mkd ms v)) → H d = none → Q (.ref d) H') :
    tCB (rDictP K) (tCons (tLc (iList K (tVar i)) (gName j) tYes (tTup (tCons (tVar j) (tCons te tNil))) [j]) tNil) σ H Q := by
  refine ⟨.ref a, hi, a, rfl, ⟨_, sqL ha⟩, fun D nD => lc_it (walk_sv ms) (fun i H1 => Same H H1 ∧ ∃ (ps : List Addr), H1 D = some (.lst (ps.map V.ref)) ∧ Paired (fun p m => H1 p = some (.tup [.str m, v m])) ps (ms.take i)) ?_ (fun i H1 _ p => sqL (p.1 _ _ ha)) ?_ ?_⟩
  · exact ⟨same_new nD, [], upd_same, .nil⟩
  · rintro t x H0 H1 ht ⟨s1, ps, eD, pr⟩ ⟨rfl, m, hm, rfl⟩
    have pl : ps.length = t := by rw [pr.length, List.length_take]; omega
    refine ⟨wipe1 _ _ _, .str m, by simp [wipe, List.getElem?_set, hj], hte m H1 _ (List.mem_of_getElem? hm) s1 ?_⟩
    refine ⟨(by show 2 ≤ sizeLine; decide), fun o no => ⟨ps.map V.ref, ?_, ?_, same_mut (s1.trans (same_new no)) nD, ps ++ [o], ?_, ?_⟩⟩
    · rw [upd_ne (ne_of_none eD no)]
      exact eD
    · rw [List.length_map, pl]
      exact sz (by omega)
    · rw [upd_same, List.map_append]; rfl
    · have noD : o ≠ D := fun z => by
        subst z
        rw [eD] at no
        cases no
      rw [take_snoc hm]
      refine Paired.snoc ?_ ?_
      · have st2 : ∀ b w, H1 b = some (.tup w) → (upd (upd H1 o (.tup [.str m, v m])) D (.lst (ps.map V.ref ++ [.ref o]))) b = some (.tup w) := fun b w e => by
          rw [upd_ne (ne_of e eD (fun z => by cases z)), upd_ne (ne_of_none e no)]
          exact e
        exact Paired.mapP pr fun b m e => st2 _ _ e
      · show (upd (upd H1 o (.tup [.str m, v m])) D (.lst (ps.map V.ref ++ [.ref o]))) o = some (.tup [.str m, v m])
        rw [upd_ne noD, upd_same]
  · rintro H1 ⟨s1, ps, eD, pr⟩
    rw [List.take_of_length_le (Nat.le_refl _)] at pr
    refine ⟨D, ps, mkd ms v, rfl, sqL eD, ?_, fun d nd' => ?_⟩
    · clear q hl nd ha eD hte
      induction pr with
      | nil => exact .nil
      | cons h0 _ ih => exact .cons (sqT h0) ih
    · have em : mergeK [] (mkd ms v) = mkd ms v := merge_mkd _ ms [] (by simpa using nd)
      rw [em]
      exact q _ d (s1.trans (same_new nd')) upd_same (s1.free nd')
def spEqual (CG CA : Addr) : Sp := fun vs H Q _ => ∃ (A : GA) (a hh kd : Addr) (ad : Str → Addr) (ms : List Str) (p : Str) (h : List Str) (k : Str → Nat), vs = [.ref a, .ref A.g, .ref hh, .ref kd] ∧ H a = some (.lst (sv ms)) ∧ GS CG CA H A ms p h k ∧ H hh = some (.lst (sv h)) ∧
  DL H kd ms ad (fun m => (givers m h).take (k m)) ∧ ∀ H', Same H H' → Q (.bl true) H'
section
variable {P : Program} {w : World} {K : PySem.W.Frag} {mg : Str → Option Value} {base : Heap} (T : Txt K mg)
theorem getLast_has {h : List Str} (hd : ∃ p r, h = p :: r) : ∃ y, h.getLast? = some y := by
  obtain ⟨p, r, rfl⟩ := hd
  exact ⟨_, List.getLast?_eq_getLast (List.cons_ne_nil _ _)⟩
theorem ok_l_equal : FnOk P w K mg base CX0 3 T.f_l_equal T.fd_l_equal ["_law_members_here", "_law_group", "_law_history", "_law_known"] (spEqual T.C_Group T.C_Auditor) := by
  have GL : FnOk P w K mg base CX0 1 T.f_l_lists T.fd_l_lists ["_law_members_here", "_law_history"] spLists := ok_l_lists T
  have G1 : FnOk P w K mg base CX0 1 T.f_Group_holder_now T.fd_Group_holder_now ["self"] (spHolder T.C_Group T.C_Auditor) := ok_holder T
  have G2 : FnOk P w K mg base CX0 1 T.f_Group_history_so_far T.fd_Group_history_so_far ["self"] (spHistory T.C_Group T.C_Auditor) := ok_history T
  have G3 : FnOk P w K mg base CX0 1 T.f_Group_lists_so_far T.fd_Group_lists_so_far ["self"] (spGLists T.C_Group T.C_Auditor) := ok_glists T
  have G4 : FnOk P w K mg base CX0 2 T.f_Group_reports_in_transit T.fd_Group_reports_in_transit ["self"] (spTransit T.C_Group T.C_Auditor) := ok_transit T
  have G5 : FnOk P w K mg base CX0 2 T.f_Group_known_so_far T.fd_Group_known_so_far ["self"] (spGKnown T.C_Group T.C_Auditor) := ok_gknown T
  refine T.F_l_equal.ok sc_l_equal (fun vs H Q E h => ?_) (fun cdv A outer s H vs Q E hr h => ?_)
  · obtain ⟨A, a, hh, kd, ad, ms, p, h, k, rfl, _⟩ := h
    rfl
  · obtain ⟨A, a, hh, kd, ad, ms, p, h, k, rfl, ha, g, hhh, kn, q⟩ := h
    have hr1 : Room 1 _ := hr.mono (by decide)
    have hu := hu_of hr
    have hu64 : Around.units _ + 64 < cLine := hr.units
    have nd := sc_l_equal.nd
    have M := g.M
    refine ⟨_, pss_cons (ps_set (i := 4) nd rfl (.inr rfl) (pe_call GL hr1 (by rfl) T.g_l_lists T.F_l_lists.kp T.b_l_lists .nil pass0 (pa_cons (pv 0) (pa_cons (pv 2) pa_nil))))
      (pss_cons (ps_set (i := 5) nd rfl (.inl rfl) (pe_callTy (call_dictK rfl) (by rfl) T.z_dict (by decide +kernel) (pa_cons
        (pe_lc (own := [("_law_member", 6)]) (g := gName 6) (tt := tYes) (te := tTup (tCons (tVar 6) (tCons (tOp (rI0 fun i j => .int (i - j)) (tCB (rLenOf K) (tCons (tDGet (tVar 4) (tVar 6)) tNil)) (tCB (rLenOf K) (tCons (tDGet (tVar 3) (tVar 6)) tNil))) tNil))) rfl nd (pi_list (pv 0))
          (blkOk_by (N := ["_law_members_here", "_law_group", "_law_history", "_law_known", "_law_lists_here", "_law_transit", "_law_member"]) (sc := defScope s_l_equal) (by decide +kernel)) (fun _ _ _ _ _ => pg_name (i := 6) nd rfl (.inl rfl)) (fun _ _ _ _ _ => pts_nil)
          (fun _ _ _ _ _ => pe_tup (pa_cons (pv 6) (pa_cons (pe_op op_sub (pe_callB call_lenK (by rfl) T.z_len PySem.boot_len (pa_cons (pe_dget hu (pv 4) (pv 6) (fun _ _ => rfl)) pa_nil)) (pe_callB call_lenK (by rfl) T.z_len PySem.boot_len (pa_cons (pe_dget hu (pv 3) (pv 6) (fun _ _ => rfl)) pa_nil))) pa_nil)))) pa_nil)))
      (pss_cons (ps_if (PW.pt (pw_or (pt_cmpR op_ne (pe_meth0 (pv 1) T.cl_Group T.m_Group_holder_now G1 hr1 T.b_Group_holder_now .nil pass0) (pe_ix ix_list (pv 2) (pe_un un_neg pe_int) (fun _ _ => rfl)) (nomark _))
          (pw_or (pt_cmpR (op_neD hu64) (pe_meth0 (pv 1) T.cl_Group T.m_Group_history_so_far G2 hr1 T.b_Group_history_so_far .nil pass0) (pv 2) (nomark _))
          (pw_or1 (pt_cmpR (op_neDict hu64) (pe_meth0 (pv 1) T.cl_Group T.m_Group_lists_so_far G3 hr1 T.b_Group_lists_so_far .nil pass0) (pv 4) (nomark _)))))) (pss_one (ps_ret pe_bl)) pss_nil)
      (pss_one (ps_ret (pe_and (pe_cmpR (op_eqV hu64) (pe_meth0 (pv 1) T.cl_Group T.m_Group_reports_in_transit G4 hr T.b_Group_reports_in_transit .nil pass0) (pv 5) (nomark _))
        (pe_one (pe_cmpR (op_eqV hu64) (pe_meth0 (pv 1) T.cl_Group T.m_Group_known_so_far G5 hr T.b_Group_known_so_far .nil pass0) (pv 3) (nomark _)))))))), ?_⟩
    refine ⟨.ref a, rfl, .ref hh, rfl, a, hh, ms, h, rfl, ha, hhh, M.nd, by have := M.hi; omega, by have := g.hl; omega, g.hm, fun H1 d1 a1 s1 dn1 => ?_⟩
    refine dict_vals (fun m => .int ((givers m h).length - k m)) (i := 0) (j := 6) rfl (by show 6 < 7; decide) (s1 _ _ ha) M.nd (by have := M.hi; omega) ?_ ?_
    · intro m H2 Q2 hm s2 q2
      have kn2 := kn.same (s1.trans s2)
      have dn2 := dn1.dl.same s2
      have e : (((sv (givers m h)).length : Int) - ((sv ((givers m h).take (k m))).length : Int)) = ((givers m h).length : Int) - (k m : Int) := by
        have := g.kl m hm
        rw [List.length_map, List.length_map, List.length_take]
        omega
      refine ⟨.ref d1, rfl, .str m, rfl, d1, .ref (a1 m), rfl, dn2.get hm, a1 m, sv (givers m h), rfl, .inl (sqL (dn2.at_ m hm)), .ref kd, rfl, .str m, rfl, kd, .ref (ad m), rfl, kn2.get hm, ad m, sv ((givers m h).take (k m)), rfl, .inl (sqL (kn2.at_ m hm)), _, _, rfl, rfl, ?_⟩
      show Q2 (.int (((sv (givers m h)).length : Int) - ((sv ((givers m h).take (k m))).length : Int))) H2
      rw [e]
      exact q2
    · intro H2 d2 s2 ed2 _
      have g2 := g.same (s1.trans s2)
      obtain ⟨rc, _, ga⟩ := g2.at_
      obtain ⟨y, hy⟩ := getLast_has (h := h) (by obtain ⟨r, e⟩ := g.hd; exact ⟨p, r, e⟩)
      have hh2 := s2 _ _ (s1 _ _ hhh)
      have okh : ∀ x ∈ h, PyData.strOk x = true := fun x hx => nameB_ok (M.nm x (g.hm x hx))
      refine ⟨.ref A.g, rfl, A.g, A.dg, _, rfl, ga.ob, rfl, A, ms, p, h, k, y, rfl, g2, hy, .ref hh, rfl, 1, rfl, hh, sv h, -1, .str y, rfl, rfl, sqL hh2, getLast_at hy, rfl, _, rfl, ?_⟩
      rw [decide_eq_true rfl]
      refine iteF ?_
      refine ⟨.ref A.g, rfl, A.g, A.dg, _, rfl, ga.ob, rfl, A, ms, p, h, k, rfl, g2, fun l nl => ?_⟩
      have s3 : Same H2 (upd H2 l (.lst (sv h))) := same_new nl
      refine ⟨.ref hh, rfl, _, _, dp_strs (sqL upd_same), dp_strs (sqL (s3 _ _ hh2)), shaped_strs okh, shaped_strs okh, _, rfl, ?_⟩
      rw [eqv_strs, decide_eq_true rfl]
      refine iteF ?_
      generalize upd H2 l (.lst (sv h)) = H3 at s3
      have g3 := g2.same s3
      obtain ⟨rc3, _, ga3⟩ := g3.at_
      refine ⟨.ref A.g, rfl, A.g, A.dg, _, rfl, ga3.ob, rfl, A, ms, p, h, k, rfl, g3, fun H4 d4 a4 s4 dn4 => ?_⟩
      have dn1' := dn1.dl.same (s2.trans (s3.trans s4))
      refine ⟨.ref d1, rfl, d4, d1, _, _, rfl, rfl, dn4.dl.dict, dn1'.dict, (by rw [mkd_len, mkd_len]), dn4.dl.eqs dn1' (fun _ _ => rfl) 58, _, rfl, iteF ?_⟩
      have g4 := g3.same s4
      obtain ⟨rc4, _, ga4⟩ := g4.at_
      refine ⟨.ref A.g, rfl, A.g, A.dg, _, rfl, ga4.ob, rfl, A, ms, p, h, k, rfl, g4, fun H5 d5 s5 ed5 _ => ?_⟩
      have ed2' := s5 _ _ (s4 _ _ (s3 _ _ ed2))
      refine ⟨.ref d2, rfl, 2, by decide, .inr ⟨d5, d2, _, _, rfl, rfl, ed5, ed2', rfl, mkd_eqs (fun _ _ => rfl) (fun _ _ => rfl) 1⟩, true, rfl, iteT ?_⟩
      have g5 := g4.same s5
      obtain ⟨rc5, _, ga5⟩ := g5.at_
      refine ⟨.ref A.g, rfl, A.g, A.dg, _, rfl, ga5.ob, rfl, A, ms, p, h, k, rfl, g5, fun H6 d6 a6 s6 dn6 => ?_⟩
      have sA := (s1.trans s2).trans (s3.trans (s4.trans (s5.trans s6)))
      have kn6 := kn.same sA
      exact ⟨.ref kd, rfl, 3, by decide, .inr ⟨d6, kd, _, _, rfl, rfl, dn6.dl.dict, kn6.dict, (by rw [mkd_len, mkd_len]), dn6.dl.eqs kn6 (fun _ _ => rfl) 1⟩, q _ sA⟩
end
/-- all the group's places -/
def GA.all (A : GA) (ms : List Str) : List Addr := A.g :: A.a :: A.m2 :: A.m3 :: A.kd :: A.ld :: A.wr ms
/-- the law's own things beside the group -/
structure Law (CG CA : Addr) (H : Hp) (A : GA) (ms : List Str) (p : Str) (h : List Str) (k : Str → Nat) (a hh kd : Addr) (ad : Str → Addr) : Prop where
  g : GS CG CA H A ms p h k
  hist : Hist ms h
  ha : H a = some (.lst (sv ms))
  eh : H hh = some (.lst (sv h))
  kn : DL H kd ms ad (fun m => (givers m h).take (k m))
  inj : ∀ x ∈ ms, ∀ y ∈ ms, ad x = ad y → x = y
  na : a ∉ A.all ms
  nh : hh ∉ A.all ms
  nk : kd ∉ A.all ms
  nad : ∀ m ∈ ms, ad m ∉ A.all ms
  ah : a ≠ hh
  aa : ∀ m ∈ ms, ad m ≠ a
  ahh : ∀ m ∈ ms, ad m ≠ hh
theorem Law.same {CG CA : Addr} {H H' : Hp} {A : GA} {ms : List Str} {p : Str} {h : List Str} {k : Str → Nat} {a hh kd : Addr} {ad : Str → Addr} (l : Law CG CA H A ms p h k a hh kd ad) (s : Same H H') : Law CG CA H' A ms p h k a hh kd ad :=
  ⟨l.g.same s, l.hist, s _ _ l.ha, s _ _ l.eh, l.kn.same s, l.inj, l.na, l.nh, l.nk, l.nad, l.ah, l.aa, l.ahh⟩
/-- a bag's change, or that of any other thing, leaves it -/
theorem Law.keep {CG CA : Addr} {H H' : Hp} {A : GA} {ms : List Str} {p : Str} {h : List Str} {k : Str → Nat} {a hh kd : Addr} {ad : Str → Addr} {b : Addr} (l : Law CG CA H A ms p h k a hh kd ad) (s : Keep [b] H H')
    (nb : b ∉ A.all ms) (n1 : b ≠ a) (n2 : b ≠ hh) (n3 : b ≠ kd) (n4 : ∀ m ∈ ms, b ≠ ad m) : Law CG CA H' A ms p h k a hh kd ad :=
  ⟨l.g.keep s (fun c hc => by rw [List.mem_singleton.mp hc]; exact nb), l.hist, s _ _ l.ha (by simpa using Ne.symm n1), s _ _ l.eh (by simpa using Ne.symm n2), l.kn.keep s (by simpa using Ne.symm n3) (fun m hm => by simpa using Ne.symm (n4 m hm)),
    l.inj, l.na, l.nh, l.nk, l.nad, l.ah, l.aa, l.ahh⟩
theorem GA.wr_all {A : GA} {ms : List Str} {b : Addr} (h : b ∈ A.wr ms) : b ∈ A.all ms := by simp [GA.all, h]
theorem GA.ka_wr {A : GA} {ms : List Str} {m : Str} (h : m ∈ ms) : A.ka m ∈ A.wr ms := by simp [GA.wr]; exact .inr (.inr (.inl ⟨m, h, rfl⟩))
theorem GA.la_wr {A : GA} {ms : List Str} {m : Str} (h : m ∈ ms) : A.la m ∈ A.wr ms := by simp [GA.wr]; exact .inr (.inr (.inr ⟨m, h, rfl⟩))
theorem GA.rc_wr {A : GA} {ms : List Str} : A.rc ∈ A.wr ms := by simp [GA.wr]
theorem GA.hl_wr {A : GA} {ms : List Str} : A.hl ∈ A.wr ms := by simp [GA.wr]
/-- an if by what its test may be -/
theorem if_val {c : TT} {t u : TS} {D : Ends} {σ : L2.St} {H : Hp} (good : Bool → Hp → Prop) (h : ∀ Q : Bool → Hp → Prop, (∀ b H', good b H' → Q b H') → c σ H Q) (k1 : ∀ H', good true H' → t D σ H') (k2 : ∀ H', good false H' → u D σ H') : tIfS c t u D σ H :=
  h _ fun b H' g => by
    cases b with
    | true => exact iteT (k1 H' g)
    | false => exact iteF (k2 H' g)
theorem pick3 {wt : List Str} {v1 v2 v3 : V} {r : Int} (h1 : v1 ∈ sv wt) (h2 : v2 ∈ sv wt) (h3 : v3 ∈ sv wt) (r0 : 0 ≤ r) (r3 : r < 3) : ∃ v, atI [v1, v2, v3] r = some v ∧ v ∈ sv wt := by
  rcases (by omega : r = 0 ∨ r = 1 ∨ r = 2) with rfl | rfl | rfl
  · exact ⟨v1, rfl, h1⟩
  · exact ⟨v2, rfl, h2⟩
  · exact ⟨v3, rfl, h3⟩
def spCall (CG CA : Addr) : Sp := fun vs H Q _ => ∃ (A : GA) (b a hh kd : Addr) (ad : Str → Addr) (ms : List Str) (p : Str) (h : List Str) (k : Str → Nat) (style : Int) (n : Nat), vs = [.ref b, .ref a, .ref A.g, .ref hh, .ref kd, .int style] ∧
  Law CG CA H A ms p h k a hh kd ad ∧ h.length < 490 ∧ 0 ≤ style ∧ style < 4 ∧ Bag H b n ∧ n ≤ 100000 ∧ b ∉ A.all ms ∧ b ≠ a ∧ b ≠ hh ∧ b ≠ kd ∧ (∀ m ∈ ms, b ≠ ad m) ∧
  ∀ H' h' k', Keep (b :: hh :: (ms.map ad ++ A.wr ms)) H H' → Bag H' b (n + 10) → Law CG CA H' A ms p h' k' a hh kd ad → h'.length ≤ h.length + 1 → Q (.bl true) H'
section
variable {P : Program} {w : World} {K : PySem.W.Frag} {mg : Str → Option Value} {base : Heap} (T : Txt K mg)
theorem ok_l_call : FnOk P w K mg base CX0 4 T.f_l_call_right T.fd_l_call_right ["_law_bag_here", "_law_members_here", "_law_group", "_law_history", "_law_known", "_law_style"] (spCall T.C_Group T.C_Auditor) := by
  have GT : FnOk P w K mg base CX0 1 T.f_l_take T.fd_l_take ["_law_bag_here", "_law_many"] spTake := ok_take T
  have GP : FnOk P w K mg base CX0 2 T.f_l_pick T.fd_l_pick ["_law_bag_here", "_law_values"] spPick := ok_pick T
  have GL : FnOk P w K mg base CX0 1 T.f_l_lists T.fd_l_lists ["_law_members_here", "_law_history"] spLists := ok_l_lists T
  have GW : FnOk P w K mg base CX0 3 T.f_l_walk T.fd_l_walk ["_law_bag_here", "_law_members_here", "_law_history", "_law_many", "_law_style"] spWalk := ok_l_walk T
  have GD : FnOk P w K mg base CX0 3 T.f_Group_deliver_from T.fd_Group_deliver_from ["self", "member"] (spDeliver T.C_Group T.C_Auditor) := ok_deliver T
  have GH : FnOk P w K mg base CX0 2 T.f_Group_hand_to T.fd_Group_hand_to ["self", "member"] (spHandTo T.C_Group T.C_Auditor) := ok_hand_to T
  refine T.F_l_call_right.ok sc_l_call_right (fun vs H Q E h => ?_) (fun cdv A outer s H vs Q E hr h => ?_)
  · obtain ⟨A, b, a, hh, kd, ad, ms, p, h, k, style, n, rfl, _⟩ := h
    rfl
  · obtain ⟨A, b, a, hh, kd, ad, ms, p, h, k, style, n, rfl, L, hl, st0, st4, B, hn, nb, nba, nbh, nbk, nbd, q⟩ := h
    have hr1 : Room 1 _ := hr.mono (by decide)
    have hr2 : Room 2 _ := hr.mono (by decide)
    have hu := hu_of hr
    have hu64 : Around.units _ + 64 < cLine := hr.units
    have nd := sc_l_call_right.nd
    have M := L.g.M
    refine ⟨_, pss_cons (ps_set (i := 6) nd rfl (.inr rfl) (pe_call GL hr1 (by rfl) T.g_l_lists T.F_l_lists.kp T.b_l_lists .nil pass0 (pa_cons (pv 1) (pa_cons (pv 3) pa_nil))))
      (pss_cons (ps_setLc (i := 7) (own := [("_law_member", 8)]) (g := gName 8) (tt := tTest (tOp (rI0 fun i j => .bl (decide (j < i))) (tCB (rLenOf K) (tCons (tDGet (tVar 6) (tVar 8)) tNil)) (tCB (rLenOf K) (tCons (tDGet (tVar 4) (tVar 8)) tNil)))) rfl nd rfl rfl (sw_true rfl rfl rfl (by decide +kernel)) (pi_list (pv 1))
          (blkOk_by (N := ["_law_bag_here", "_law_members_here", "_law_group", "_law_history", "_law_known", "_law_style", "_law_lists_here", "_law_waiting", "_law_member", "_law_entry", "_law_more"]) (sc := defScope s_l_call_right) (by decide +kernel)) (fun _ _ _ _ _ => pg_name (i := 8) nd rfl (.inl rfl))
          (fun _ _ _ _ _ => pts_one (pt_cmpR op_gt (pe_callB call_lenK (by rfl) T.z_len PySem.boot_len (pa_cons (pe_dget hu (pv 6) (pv 8) (fun _ _ => rfl)) pa_nil)) (pe_callB call_lenK (by rfl) T.z_len PySem.boot_len (pa_cons (pe_dget hu (pv 4) (pv 8) (fun _ _ => rfl)) pa_nil)) (nomark _))) (fun _ _ _ _ _ => pv 8))
      (pss_cons (ps_if (PW.pt (pw_and (pt_cmpR (op_neD hu64) (pv 7) (pe_lst pa_nil) (nomark _)) (pw_and1 (pt_cmpR op_eq (pe_call GT hr1 (by rfl) T.g_l_take T.F_l_take.kp T.b_l_take .nil pass0 (pa_cons (pv 0) (pa_cons pe_int pa_nil))) pe_int (nomark _)))))
        (pss_cons (ps_set (i := 8) nd rfl (.inl rfl) (pe_ix ix_list (pe_lst (pa_cons (pe_ix ix_list (pv 7) pe_int (fun _ _ => rfl)) (pa_cons (pe_ix ix_list (pv 7) (pe_un un_neg pe_int) (fun _ _ => rfl)) (pa_cons (pe_call GP hr2 (by rfl) T.g_l_pick T.F_l_pick.kp T.b_l_pick .nil pass0 (pa_cons (pv 0) (pa_cons (pv 7) pa_nil))) pa_nil))))
            (pe_call GT hr1 (by rfl) T.g_l_take T.F_l_take.kp T.b_l_take .nil pass0 (pa_cons (pv 0) (pa_cons pe_int pa_nil))) (fun _ _ => rfl)))
        (pss_cons (ps_set (i := 9) nd rfl (.inl rfl) (pe_ix ix_list (pe_dget hu (pv 6) (pv 8) (fun _ _ => rfl)) (pe_callB call_lenK (by rfl) T.z_len PySem.boot_len (pa_cons (pe_dget hu (pv 4) (pv 8) (fun _ _ => rfl)) pa_nil)) (fun _ _ => rfl)))
        (pss_cons (ps_expr (pe_bm PySem.F.plainAttrs_list PySem.F.slot_list_append PySem.F.type_list_append mt_append (pe_dget hu (pv 4) (pv 8) (fun _ _ => rfl)) (pa_cons (pv 9) pa_nil)))
        (pss_one (ps_ret (pe_cmpR op_eq (pe_meth (pv 2) T.cl_Group T.m_Group_deliver_from GD hr T.b_Group_deliver_from .nil pass0 (pa_cons (pv 8) pa_nil)) (pv 9) (nomark _))))))) pss_nil)
      (pss_cons (ps_set (i := 10) nd rfl (.inl rfl) (pe_call GW hr (by rfl) T.g_l_walk T.F_l_walk.kp T.b_l_walk .nil pass0 (pa_cons (pv 0) (pa_cons (pv 1) (pa_cons (pv 3) (pa_cons pe_int (pa_cons (pv 5) pa_nil)))))))
      (pss_cons (ps_if (pt_cmpR op_eq (pe_callB call_lenK (by rfl) T.z_len PySem.boot_len (pa_cons (pv 10) pa_nil)) (pe_callB call_lenK (by rfl) T.z_len PySem.boot_len (pa_cons (pv 3) pa_nil)) (nomark _)) (pss_one (ps_ret pe_bl)) pss_nil)
      (pss_cons (ps_expr (pe_bm PySem.F.plainAttrs_list PySem.F.slot_list_append PySem.F.type_list_append mt_append (pv 3) (pa_cons (pe_ix ix_list (pv 10) (pe_un un_neg pe_int) (fun _ _ => rfl)) pa_nil)))
      (pss_one (ps_ret (pe_cmpR op_isN (pe_meth (pv 2) T.cl_Group T.m_Group_hand_to GH hr2 T.b_Group_hand_to .nil pass0 (pa_cons (pe_ix ix_list (pv 10) (pe_un un_neg pe_int) (fun _ _ => rfl)) pa_nil)) pe_non (nomark _))))))))), ?_⟩
    refine ⟨.ref a, rfl, .ref hh, rfl, a, hh, ms, h, rfl, L.ha, L.eh, M.nd, by have := M.hi; omega, by omega, L.g.hm, fun H1 d1 a1 s1 dn1 => ?_⟩
    have L1 := L.same s1
    -- waiting
    refine ⟨.ref a, rfl, a, rfl, ⟨_, sqL L1.ha⟩, fun o no => lc_it (walk_sv ms) (fun i H3 => Same H1 H3 ∧ H3 o = some (.lst (sv ((ms.take i).filter fun m => decide (k m < (givers m h).length))))) ⟨same_new no, by rw [upd_same]; rfl⟩ (fun i H3 _ p => sqL (p.1 _ _ L1.ha)) ?_ ?_⟩
    · rintro i v H0 H2 hi ⟨s3, eo⟩ ⟨rfl, m, hm, rfl⟩
      have mm := List.mem_of_getElem? hm
      have L2' := L1.same s3
      have dn2 := dn1.dl.same s3
      refine ⟨rfl, .ref d1, rfl, .str m, rfl, d1, .ref (a1 m), rfl, dn2.get mm, a1 m, sv (givers m h), rfl, .inl (sqL (dn2.at_ m mm)), .ref kd, rfl, .str m, rfl, kd, .ref (ad m), rfl, L2'.kn.get mm, ad m, sv ((givers m h).take (k m)), rfl, .inl (sqL (L2'.kn.at_ m mm)), _, _, rfl, rfl, _, rfl, ?_⟩
      have ed : decide (((sv ((givers m h).take (k m))).length : Int) < ((sv (givers m h)).length : Int)) = decide (k m < (givers m h).length) := by
        have := L.g.kl m mm
        rw [List.length_map, List.length_map, List.length_take]
        by_cases z : k m < (givers m h).length
        · rw [decide_eq_true z, decide_eq_true]; omega
        · rw [decide_eq_false z, decide_eq_false]; omega
      show if decide (((sv ((givers m h).take (k m))).length : Int) < ((sv (givers m h)).length : Int)) = true then _ else _
      rw [ed]
      have eot : (ms.take (i + 1)).filter (fun m => decide (k m < (givers m h).length)) = (ms.take i).filter (fun m => decide (k m < (givers m h).length)) ++ (if k m < (givers m h).length then [m] else []) := by
        rw [take_snoc hm, List.filter_append]
        by_cases z : k m < (givers m h).length <;> simp [z]
      by_cases z : k m < (givers m h).length
      · rw [decide_eq_true z]
        refine iteT ⟨.str m, rfl, _, eo, ?_, same_mut s3 no, ?_⟩
        · have l1 : ((ms.take i).filter fun m => decide (k m < (givers m h).length)).length ≤ (ms.take i).length := List.length_filter_le _ _
          rw [List.length_take] at l1
          rw [List.length_map]
          exact sz (by have := M.hi; omega)
        · rw [upd_same, eot, if_pos z]; simp
      · rw [decide_eq_false z]
        refine iteF ⟨s3, ?_⟩
        rw [eot, if_neg z, List.append_nil]
        exact eo
    · rintro H3 ⟨s3, eo⟩
      rw [List.take_of_length_le (Nat.le_refl _)] at eo
      generalize hwt : ms.filter (fun m => decide (k m < (givers m h).length)) = wt at eo
      have wtm : ∀ m ∈ wt, m ∈ ms ∧ k m < (givers m h).length := fun m hm => by
        rw [← hwt] at hm
        obtain ⟨h1, h2⟩ := List.mem_filter.mp hm
        exact ⟨h1, of_decide_eq_true h2⟩
      have wtl : wt.length ≤ 12 := by
        rw [← hwt]
        exact Nat.le_trans (List.length_filter_le _ _) M.hi
      have s03 := s1.trans s3
      have L3 := L.same s03
      have dn3 := dn1.dl.same s3
      have B3 : Bag H3 b n := B.keep (W := []) (Keep.of_same s03) (by simp)
      obtain ⟨xs0, hb0⟩ := B.lst
      have nbo : b ≠ o := ne_of_none (s1 _ _ hb0) no
      have nbd1 : b ≠ d1 := ne_of_none hb0 dn1.d0
      have nba1 : ∀ m ∈ ms, b ≠ a1 m := fun m hm => ne_of_none hb0 (dn1.new m hm)
      have okw : ∀ x ∈ wt, PyData.strOk x = true := fun x hx => nameB_ok (M.nm x (wtm x hx).1)
      unfold gName
      dsimp only
      unfold tSeq
      refine if_val (fun bb H5 => Keep [b] H3 H5 ∧ Bag H5 b (n + 1) ∧ (bb = true → wt ≠ [])) (fun R kR => ?_) ?_ ?_
      · refine ⟨.ref o, rfl, Nat.zero_le _, fun z nz => ⟨_, _, dp_strs (sqL (same_new nz _ _ eo)), dp_strs (l := []) (sqL upd_same), shaped_strs okw, shaped_strs (fun _ w => by cases w), _, rfl, ?_⟩⟩
        have s4 : Same H3 (upd H3 z (.lst [])) := same_new nz
        rw [eqv_strs]
        by_cases hw : wt = []
        · rw [decide_eq_true hw]
          exact iteF (kR _ _ ⟨Keep.of_same s4, (B3.keep (W := []) (Keep.of_same s4) (by simp)).mono (by omega), fun z => by cases z⟩)
        · rw [decide_eq_false hw]
          refine iteT ⟨.ref b, rfl, b, 2, n, rfl, by decide, by decide, B3.keep (W := []) (Keep.of_same s4) (by simp), by omega, fun H5 r k5 B5 r0 r2 => ⟨rfl, _, rfl, kR _ _ ⟨(Keep.of_same s4).trans k5, B5, fun _ => hw⟩⟩⟩
      · -- a report arrives
        rintro H5 ⟨k5, B5, hw⟩
        have hw := hw rfl
        have L5 := L3.keep k5 nb nba nbh nbk nbd
        have eo5 := k5 _ _ eo (by simpa using Ne.symm nbo)
        have wl : 1 ≤ wt.length := by
          cases hq : wt with
          | nil => exact absurd hq hw
          | cons _ _ => simp
        obtain ⟨yl, hyl⟩ : ∃ y, wt.getLast? = some y := ⟨_, List.getLast?_eq_getLast hw⟩
        have m0 : V.str (wt[0]'(by omega)) ∈ sv wt := List.mem_map.mpr ⟨_, List.getElem_mem _, rfl⟩
        have ml : V.str yl ∈ sv wt := List.mem_map.mpr ⟨_, List.mem_of_getLast? hyl, rfl⟩
        refine ⟨.ref o, rfl, o, _, 0, _, rfl, rfl, sqL eo5, atI_nat (j := 0) (sv_get (List.getElem?_eq_getElem (by omega))), .ref o, rfl, 1, rfl, o, _, -1, _, rfl, rfl, sqL eo5, getLast_at hyl,
          .ref b, rfl, .ref o, rfl, b, o, sv wt, n + 1, rfl, eo5, by rw [List.length_map]; exact wl, by rw [List.length_map]; omega, Ne.symm nbo, B5, by omega, fun H6 v3 k6 B6 m3 => ?_⟩
        refine ⟨(by show 3 ≤ sizeLine; decide), fun l nl => ?_⟩
        have nbl : b ≠ l := by obtain ⟨x, hx⟩ := B6.lst; exact ne_of_none hx nl
        have B7 := B6.keep (W := []) (keep_new (o := .lst [V.str (wt[0]'(by omega)), V.str yl, v3]) nl) (by simp)
        refine ⟨.ref b, rfl, b, 3, _, rfl, by decide, by decide, B7, by omega, fun H8 r k8 B8 r0 r3 => ?_⟩
        obtain ⟨v, ev, mv⟩ := pick3 m0 ml m3 r0 r3
        obtain ⟨m, hmw, rfl⟩ := mem_sv mv
        obtain ⟨mm, hk⟩ := wtm m hmw
        refine ⟨l, _, r, .str m, rfl, rfl, sqL (k8 _ _ upd_same (by simpa using Ne.symm nbl)), ev, ?_⟩
        have k38 : Keep [b] H3 H8 := k5.trans (k6.trans ((keep_new nl).trans k8))
        have L8 := L3.keep k38 nb nba nbh nbk nbd
        have dn8 : DL H8 d1 ms a1 (fun m => givers m h) := dn3.keep k38 (by simpa using Ne.symm nbd1) (fun m hm => by simpa using Ne.symm (nba1 m hm))
        have hx : (givers m h)[k m]? = some ((givers m h)[k m]'hk) := List.getElem?_eq_getElem hk
        have elen : ((sv ((givers m h).take (k m))).length : Int) = (k m : Int) := by rw [List.length_map, List.length_take]; omega
        -- entry = ..
        refine ⟨.ref d1, rfl, .str m, rfl, d1, .ref (a1 m), rfl, dn8.get mm, .ref kd, rfl, .str m, rfl, kd, .ref (ad m), rfl, L8.kn.get mm, ad m, _, rfl, .inl (sqL (L8.kn.at_ m mm)), a1 m, _, _, .str ((givers m h)[k m]'hk), rfl, rfl, sqL (dn8.at_ m mm), at_of (j := k m) elen (sv_get hx), ?_⟩
        generalize hxx : (givers m h)[k m]'hk = x at hx
        -- known[member].append(entry)
        have hg1 := givers_len m h
        refine ⟨.ref kd, rfl, .str m, rfl, kd, .ref (ad m), rfl, L8.kn.get mm, .inl ⟨rfl, _, sqL (L8.kn.at_ m mm)⟩, .str x, rfl, ad m, _, .str x, rfl, rfl, L8.kn.at_ m mm, ?_, ?_⟩
        · rw [List.length_map, List.length_take]
          exact sz (by omega)
        have es : sv ((givers m h).take (k m)) ++ [V.str x] = sv ((givers m h).take (k m) ++ [x]) := by simp
        rw [es]
        have kn9 := L8.kn.upd mm L8.inj (x := (givers m h).take (k m) ++ [x])
        have k9 : Keep [ad m] H8 (upd H8 (ad m) (.lst (sv ((givers m h).take (k m) ++ [x])))) := keep_upd (by simp)
        generalize upd H8 (ad m) (.lst (sv ((givers m h).take (k m) ++ [x]))) = H9 at kn9 k9
        have g9 := L8.g.keep k9 (fun c hc => by rw [List.mem_singleton.mp hc]; exact L8.nad m mm)
        obtain ⟨rc9, _, ga9⟩ := g9.at_
        have xne : x ≠ m := givers_ne L.hist.adj (List.mem_of_getElem? hx)
        refine ⟨.ref A.g, rfl, A.g, A.dg, _, rfl, ga9.ob, rfl, .str m, rfl, A, ms, p, h, k, m, x, rfl, g9, mm, hx, xne, fun H10 k10 g10 => ⟨.str x, rfl, rfl, ?_⟩⟩
        rw [decide_eq_true rfl]
        have rcA : A.rc ∈ A.all ms := GA.wr_all GA.rc_wr
        have kaA : A.ka m ∈ A.all ms := GA.wr_all (GA.ka_wr mm)
        have ne2 : ∀ c, c ∉ A.all ms → c ∉ [A.rc, A.ka m] := fun c hc hz => by
          rcases List.mem_cons.mp hz with rfl | hz
          · exact hc rcA
          · rw [List.mem_singleton.mp hz] at hc; exact hc kaA
        have B9 : Bag H9 b (n + 1 + 1 + 1) := B8.keep k9 (by simpa using nbd m mm)
        have B10 : Bag H10 b (n + 10) := (B9.keep k10 (ne2 b nb)).mono (by omega)
        refine q H10 h (bump k m) ?_ B10 ⟨g10, L.hist, ?_, ?_, ?_, L.inj, L.na, L.nh, L.nk, L.nad, L.ah, L.aa, L.ahh⟩ (by omega)
        · refine (Keep.of_same s03).trans ((k38.mono fun c hc => ?_).trans ((k9.mono fun c hc => ?_).trans (k10.mono fun c hc => ?_)))
          · rw [List.mem_singleton.mp hc]; exact List.mem_cons_self
          · rw [List.mem_singleton.mp hc]
            exact List.mem_cons_of_mem _ (List.mem_cons_of_mem _ (List.mem_append_left _ (List.mem_map.mpr ⟨m, mm, rfl⟩)))
          · refine List.mem_cons_of_mem _ (List.mem_cons_of_mem _ (List.mem_append_right _ ?_))
            rcases List.mem_cons.mp hc with rfl | hc
            · exact GA.rc_wr
            · rw [List.mem_singleton.mp hc]; exact GA.ka_wr mm
        · exact k10 _ _ (k9 _ _ L8.ha (by simpa using Ne.symm (L.aa m mm))) (ne2 a L.na)
        · exact k10 _ _ (k9 _ _ L8.eh (by simpa using Ne.symm (L.ahh m mm))) (ne2 hh L.nh)
        · refine (kn9.keep k10 (ne2 kd L.nk) (fun y hy => ne2 _ (L.nad y hy))).congr fun y hy => ?_
          by_cases e : y = m
          · subst e
            rw [put_same, show bump k y y = k y + 1 from if_pos rfl, take_snoc hx]
          · rw [put_ne e, show bump k m y = k y from if_neg e]
      · -- a handover
        rintro H5 ⟨k5, B5, _⟩
        have L5 := L3.keep k5 nb nba nbh nbk nbd
        refine ⟨.ref b, rfl, .ref a, rfl, .ref hh, rfl, .int style, rfl, b, a, hh, ms, h, 1, style, n + 1, rfl, L5.ha, L5.eh, M, L.hist, by omega, st0, st4, B5, by omega, nba, nbh, fun H6 l e k6 B6 nl hl6 g6 el e2 => ?_⟩
        have L6 := L5.keep k6 nb nba nbh nbk nbd
        refine ⟨.ref l, rfl, l, _, rfl, .inl (sqL hl6), .ref hh, rfl, hh, _, rfl, .inl (sqL L6.eh), rfl, _, rfl, ?_⟩
        have k36 : Keep [b] H H6 := (Keep.of_same s03).trans (k5.trans k6)
        have kW : Keep (b :: hh :: (ms.map ad ++ A.wr ms)) H H6 := k36.mono fun c hc => by rw [List.mem_singleton.mp hc]; exact List.mem_cons_self
        have B6' : Bag H6 b (n + 10) := B6.mono (by omega)
        cases e with
        | nil =>
          rw [decide_eq_true (by simp)]
          exact iteT (q H6 h k kW B6' L6 (by omega))
        | cons m e =>
          have ee : e = [] := by
            cases e with
            | nil => rfl
            | cons _ _ => simp at el
          subst ee
          rw [decide_eq_false (fun z => by have := V.int.inj z; simp at this; omega)]
          refine iteF ?_
          have hlast : (h ++ [m]).getLast? = some m := by simp
          have mm : m ∈ ms := g6.mem m (by simp)
          obtain ⟨y, hy⟩ : ∃ y, h.getLast? = some y := ⟨_, List.getLast?_eq_getLast L.hist.ne⟩
          have ymne : m ≠ y := by
            have hl0 : 1 ≤ h.length := by
              cases hq : h with
              | nil => exact absurd hq L.hist.ne
              | cons _ _ => simp
            refine Ne.symm (g6.adj (h.length - 1) y m ?_ ?_)
            · rw [List.getElem?_append_left (by omega), ← List.getLast?_eq_getElem?]; exact hy
            · rw [List.getElem?_append_right (by omega), show h.length - 1 + 1 - h.length = 0 by omega]; rfl
          have nlh : l ≠ hh := fun z => by
            subst z
            have := L5.eh
            rw [nl] at this
            cases this
          refine ⟨.ref hh, rfl, .inl ⟨rfl, _, sqL L6.eh⟩, .ref l, rfl, 1, rfl, l, _, -1, .str m, rfl, rfl, sqL hl6, getLast_at hlast, hh, _, .str m, rfl, rfl, L6.eh, ?_, ?_⟩
          · rw [List.length_map]
            exact sz (by omega)
          have es : sv h ++ [V.str m] = sv (h ++ [m]) := by simp
          rw [es]
          have e7 : (upd H6 hh (.lst (sv (h ++ [m])))) hh = some (.lst (sv (h ++ [m]))) := upd_same
          have k7 : Keep [hh] H6 (upd H6 hh (.lst (sv (h ++ [m])))) := keep_upd (by simp)
          generalize upd H6 hh (.lst (sv (h ++ [m]))) = H7 at e7 k7
          have g7 := L6.g.keep k7 (fun c hc => by rw [List.mem_singleton.mp hc]; exact L.nh)
          obtain ⟨rc7, _, ga7⟩ := g7.at_
          refine ⟨.ref A.g, rfl, A.g, A.dg, _, rfl, ga7.ob, rfl, .ref l, rfl, 1, rfl, l, _, -1, .str m, rfl, rfl, sqL (k7 _ _ hl6 (by simpa using nlh)), getLast_at hlast, A, ms, p, h, k, m, y, rfl, g7, by omega, mm, hy, ymne, fun H8 k8 g8 => ⟨rfl, ?_⟩⟩
          have hlA : A.hl ∈ A.all ms := GA.wr_all GA.hl_wr
          have laA : A.la m ∈ A.all ms := GA.wr_all (GA.la_wr mm)
          have ne2 : ∀ c, c ∉ A.all ms → c ∉ [A.hl, A.la m] := fun c hc hz => by
            rcases List.mem_cons.mp hz with rfl | hz
            · exact hc hlA
            · rw [List.mem_singleton.mp hz] at hc; exact hc laA
          refine q H8 (h ++ [m]) k ?_ ((B6'.keep k7 (by simpa using nbh)).keep k8 (ne2 b nb)) ⟨g8, g6, ?_, ?_, ?_, L.inj, L.na, L.nh, L.nk, L.nad, L.ah, L.aa, L.ahh⟩ (by simp)
          · refine kW.trans ((k7.mono fun c hc => ?_).trans (k8.mono fun c hc => ?_))
            · rw [List.mem_singleton.mp hc]; simp
            · refine List.mem_cons_of_mem _ (List.mem_cons_of_mem _ (List.mem_append_right _ ?_))
              rcases List.mem_cons.mp hc with rfl | hc
              · exact GA.hl_wr
              · rw [List.mem_singleton.mp hc]; exact GA.la_wr mm
          · exact k8 _ _ (k7 _ _ L6.ha (by simpa using L.ah)) (ne2 a L.na)
          · exact k8 _ _ e7 (ne2 hh L.nh)
          · have nkh : kd ≠ hh := ne_of L6.kn.dict L6.eh (fun z => by cases z)
            refine ((L6.kn.keep k7 (by simpa using nkh) (fun y hy => by simpa using L.ahh y hy)).keep k8 (ne2 kd L.nk) (fun y hy => ne2 _ (L.nad y hy))).congr fun y hy => ?_
            have := L.g.kl y hy
            rw [givers_last L.hist.ne, List.take_append_of_le_length this]
end
/-- the script is read whatever changes at the places in L -/
def Scr (K : PySem.W.Frag) (H : Hp) (s : Addr) (xs : List V) (L : List Addr) : Prop := (∀ H', SqL K H' s xs) ∨ (SqL K H s xs ∧ H s ≠ none ∧ s ∉ L)
theorem Scr.seq {K : PySem.W.Frag} {H : Hp} {s : Addr} {xs : List V} {L : List Addr} (h : Scr K H s xs L) : SqL K H s xs := by
  rcases h with h | h
  · exact h H
  · exact h.1
theorem Scr.init {K : PySem.W.Frag} {H : Hp} {s : Addr} {xs : List V} (h : SqL K H s xs) : Scr K H s xs [] := by
  rcases h with (h | ⟨o, h⟩) | h
  · exact .inr ⟨.inl (.inl h), by rw [h]; simp, by simp⟩
  · exact .inr ⟨.inl (.inr ⟨o, h⟩), by rw [h]; simp, by simp⟩
  · exact .inl fun _ => .inr h
theorem Scr.grow {K : PySem.W.Frag} {H : Hp} {s : Addr} {xs : List V} {L L' : List Addr} (h : Scr K H s xs L) (n : ∀ c ∈ L', c ∈ L ∨ H c = none) : Scr K H s xs L' := by
  rcases h with h | ⟨h1, h2, h3⟩
  · exact .inl h
  · refine .inr ⟨h1, h2, fun m => ?_⟩
    rcases n s m with z | z
    · exact h3 z
    · exact h2 z
theorem Scr.keep {K : PySem.W.Frag} {H H' : Hp} {s : Addr} {xs : List V} {L W : List Addr} (h : Scr K H s xs L) (k : Keep W H H') (n : ∀ c ∈ W, c ∈ L) : Scr K H' s xs L := by
  rcases h with h | ⟨h1, h2, h3⟩
  · exact .inl h
  · have ns : s ∉ W := fun m => h3 (n s m)
    refine .inr ⟨k.seq ns h1, ?_, h3⟩
    cases e : H s with
    | none => exact absurd e h2
    | some o => rw [k _ _ e ns]; simp
theorem Scr.same {K : PySem.W.Frag} {H H' : Hp} {s : Addr} {xs : List V} {L : List Addr} (h : Scr K H s xs L) (k : Same H H') : Scr K H' s xs L := h.keep (W := []) (Keep.of_same k) (by simp)
theorem cast_sum (ms : List Str) (f : Str → Nat) : (ms.map fun m => ((f m : Nat) : Int)).sum = (((ms.map f).sum : Nat) : Int) := by
  induction ms with
  | nil => rfl
  | cons x r ih => simp only [List.map_cons, List.sum_cons, ih]; omega
def spLaw (K : PySem.W.Frag) : Sp := fun vs H Q _ => ∃ (a : Addr) (ns : List Int), vs = [.ref a] ∧ SqL K H a (ns.map V.int) ∧ ns.length ≤ 63 ∧ ∀ H2, Q (.bl true) H2
section
variable {P : Program} {w : World} {K : PySem.W.Frag} {mg : Str → Option Value} {base : Heap} (T : Txt K mg)
theorem ok_law : FnOk P w K mg base CX0 8 T.f_law T.fd_law ["_law_script"] (spLaw K) := by
  have GB : FnOk P w K mg base CX0 1 T.f_l_bag T.fd_l_bag ["_law_script", "_law_k"] (spBag K) := ok_bag T
  have GT : FnOk P w K mg base CX0 1 T.f_l_take T.fd_l_take ["_law_bag_here", "_law_many"] spTake := ok_take T
  have GP : FnOk P w K mg base CX0 2 T.f_l_pick T.fd_l_pick ["_law_bag_here", "_law_values"] spPick := ok_pick T
  have GM : FnOk P w K mg base CX0 2 T.f_l_members T.fd_l_members ["_law_bag_here", "_law_least", "_law_most"] spMembers := ok_l_members T
  have GL : FnOk P w K mg base CX0 1 T.f_l_lists T.fd_l_lists ["_law_members_here", "_law_history"] spLists := ok_l_lists T
  have GI : FnOk P w K mg base CX0 6 T.f_Group_init T.fd_Group_init ["self", "members", "first"] (spGroupInit T.C_Group T.C_Auditor) := ok_group_init T
  have GC : FnOk P w K mg base CX0 4 T.f_l_call_right T.fd_l_call_right ["_law_bag_here", "_law_members_here", "_law_group", "_law_history", "_law_known", "_law_style"] (spCall T.C_Group T.C_Auditor) := ok_l_call T
  have GE : FnOk P w K mg base CX0 3 T.f_l_equal T.fd_l_equal ["_law_members_here", "_law_group", "_law_history", "_law_known"] (spEqual T.C_Group T.C_Auditor) := ok_l_equal T
  have GA' : FnOk P w K mg base CX0 4 T.f_Group_deliver_all T.fd_Group_deliver_all ["self"] (spDeliverAll T.C_Group T.C_Auditor) := ok_deliver_all T
  have GK : FnOk P w K mg base CX0 2 T.f_Group_known_so_far T.fd_Group_known_so_far ["self"] (spGKnown T.C_Group T.C_Auditor) := ok_gknown T
  refine T.F_law.ok sc_law (fun vs H Q E h => ?_) (fun cdv A outer s H vs Q E hr h => ?_)
  · obtain ⟨a, ns, rfl, _⟩ := h
    rfl
  · obtain ⟨sc, ns, rfl, hS, hns, q⟩ := h
    have hr1 : Room 1 _ := hr.mono (by decide)
    have hr2 : Room 2 _ := hr.mono (by decide)
    have hr3 : Room 3 _ := hr.mono (by decide)
    have hr4 : Room 4 _ := hr.mono (by decide)
    have hu := hu_of hr
    have hu64 : Around.units _ + 64 < cLine := hr.units
    have nd := sc_law.nd
    refine ⟨_, pss_cons (ps_set (i := 1) nd rfl (.inl rfl) (pe_call GB hr1 (by rfl) T.g_l_bag T.F_l_bag.kp T.b_l_bag .nil pass0 (pa_cons (pv 0) (pa_cons pe_int pa_nil))))
      (pss_cons (ps_set (i := 2) nd rfl (.inl rfl) (pe_call GM hr2 (by rfl) T.g_l_members T.F_l_members.kp T.b_l_members .nil pass0 (pa_cons (pv 1) (pa_cons pe_int (pa_cons pe_int pa_nil)))))
      (pss_cons (ps_par (i := 3) (j := 4) (by rfl) nd rfl rfl (by decide) rfl rfl (pa_cons (pe_call GP hr2 (by rfl) T.g_l_pick T.F_l_pick.kp T.b_l_pick .nil pass0 (pa_cons (pv 1) (pa_cons (pv 2) pa_nil))) (pa_cons (pe_call GT hr1 (by rfl) T.g_l_take T.F_l_take.kp T.b_l_take .nil pass0 (pa_cons (pv 1) (pa_cons pe_int pa_nil))) pa_nil)) (by rfl))
      (pss_cons (ps_par (i := 5) (j := 6) (by rfl) nd rfl rfl (by decide) rfl rfl (pa_cons (pe_make T.mk_Group GI hr (by rfl) T.g_Group T.b_Group_init .nil pass0 (pa_cons (pv 2) (pa_cons (pv 3) pa_nil))) (pa_cons (pe_lst (pa_cons (pv 3) pa_nil)) pa_nil)) (by rfl))
      (pss_cons (ps_set (i := 7) nd rfl (.inr rfl) (pe_callTy (call_dictK rfl) (by rfl) T.z_dict (by decide +kernel) (pa_cons
        (pe_lc (own := [("_law_member", 12)]) (g := gName 12) (tt := tYes) rfl nd (pi_list (pv 2)) (blkOk_by (N := ["_law_script", "_law_bag_here", "_law_members_here", "_law_first", "_law_style", "_law_group", "_law_history", "_law_known", "_law_k", "_law_turn", "_law_lists_here", "_law_many", "_law_member"]) (sc := defScope s_law) (by decide +kernel)) (fun _ _ _ _ _ => pg_name (i := 12) nd rfl (.inl rfl)) (fun _ _ _ _ _ => pts_nil)
          (fun _ _ _ _ _ => pe_tup (pa_cons (pv 12) (pa_cons (pe_lst pa_nil) pa_nil)))) pa_nil)))
      (pss_cons (ps_for PassesOwn.never rfl (pi_range2 (by rfl) T.z_range (pa_cons pe_int (pa_cons (pe_callB (call_max2 rfl) (by rfl) T.z_max (by decide +kernel) (pa_cons pe_int (pa_cons (pe_callB (call_min2 rfl) (by rfl) T.z_min (by decide +kernel) (pa_cons pe_int (pa_cons (pe_callB call_lenK (by rfl) T.z_len PySem.boot_len (pa_cons (pv 0) pa_nil)) pa_nil))) pa_nil))) pa_nil))) (pg_name (i := 8) nd rfl (.inl rfl))
        (pss_cons (ps_set (i := 1) nd rfl (.inl rfl) (pe_call GB hr1 (by rfl) T.g_l_bag T.F_l_bag.kp T.b_l_bag .nil pass0 (pa_cons (pv 0) (pa_cons (pv 8) pa_nil))))
        (pss_cons (ps_for PassesOwn.never rfl (pi_range1 (by rfl) T.z_range (pa_cons pe_int pa_nil)) (pg_name (i := 9) nd rfl (.inl rfl))
          (pss_cons (ps_if (pt_not (pt_val (pe_call GC hr4 (by rfl) T.g_l_call_right T.F_l_call_right.kp T.b_l_call_right .nil pass0 (pa_cons (pv 1) (pa_cons (pv 2) (pa_cons (pv 5) (pa_cons (pv 6) (pa_cons (pv 7) (pa_cons (pv 4) pa_nil))))))))) (pss_one (ps_ret pe_bl)) pss_nil)
          (pss_one (ps_if (pt_not (pt_val (pe_call GE hr3 (by rfl) T.g_l_equal T.F_l_equal.kp T.b_l_equal .nil pass0 (pa_cons (pv 2) (pa_cons (pv 5) (pa_cons (pv 6) (pa_cons (pv 7) pa_nil))))))) (pss_one (ps_ret pe_bl)) pss_nil))))
        (pss_one (ps_if (pt_cmpR op_eq (pe_call GT hr1 (by rfl) T.g_l_take T.F_l_take.kp T.b_l_take .nil pass0 (pa_cons (pv 1) (pa_cons pe_int pa_nil))) pe_int (nomark _))
          (pss_cons (ps_set (i := 10) nd rfl (.inr rfl) (pe_call GL hr1 (by rfl) T.g_l_lists T.F_l_lists.kp T.b_l_lists .nil pass0 (pa_cons (pv 2) (pa_cons (pv 6) pa_nil))))
          (pss_cons (ps_set (i := 11) nd rfl (.inl rfl) (pe_callB (cr_sum rfl) (by rfl) T.z_sum (by decide +kernel) (pa_cons
            (pe_lc (own := [("_law_member", 12)]) (g := gName 12) (tt := tYes) (te := tOp (rI0 fun i j => .int (i - j)) (tCB (rLenOf K) (tCons (tDGet (tVar 10) (tVar 12)) tNil)) (tCB (rLenOf K) (tCons (tDGet (tVar 7) (tVar 12)) tNil))) rfl nd (pi_list (pv 2))
              (blkOk_by (N := ["_law_script", "_law_bag_here", "_law_members_here", "_law_first", "_law_style", "_law_group", "_law_history", "_law_known", "_law_k", "_law_turn", "_law_lists_here", "_law_many", "_law_member"]) (sc := defScope s_law) (by decide +kernel)) (fun _ _ _ _ _ => pg_name (i := 12) nd rfl (.inl rfl)) (fun _ _ _ _ _ => pts_nil)
              (fun _ _ _ _ _ => pe_op op_sub (pe_callB call_lenK (by rfl) T.z_len PySem.boot_len (pa_cons (pe_dget hu (pv 10) (pv 12) (fun _ _ => rfl)) pa_nil)) (pe_callB call_lenK (by rfl) T.z_len PySem.boot_len (pa_cons (pe_dget hu (pv 7) (pv 12) (fun _ _ => rfl)) pa_nil)))) pa_nil)))
          (pss_cons (ps_if (pt_cmpR op_ne (pe_meth0 (pv 5) T.cl_Group T.m_Group_deliver_all GA' hr4 T.b_Group_deliver_all .nil pass0) (pv 11) (nomark _)) (pss_one (ps_ret pe_bl)) pss_nil)
          (pss_one (ps_set (i := 7) nd rfl (.inr rfl) (pv 10)))))) pss_nil)))))
      (pss_one (ps_ret (pe_and (pe_cmpR op_ge (pe_meth0 (pv 5) T.cl_Group T.m_Group_deliver_all GA' hr4 T.b_Group_deliver_all .nil pass0) pe_int (nomark _))
        (pe_one (pe_cmpR (op_eqV hu64) (pe_meth0 (pv 5) T.cl_Group T.m_Group_known_so_far GK hr2 T.b_Group_known_so_far .nil pass0) (pe_call GL hr1 (by rfl) T.g_l_lists T.F_l_lists.kp T.b_l_lists .nil pass0 (pa_cons (pv 2) (pa_cons (pv 6) pa_nil))) (nomark _))))))))))), ?_⟩
    have S0 := Scr.init hS
    refine ⟨.ref sc, rfl, sc, ns, 0, rfl, hS, by decide, fun H1 b0 s1 n1 B1 => ?_⟩
    have S1 := (S0.grow (L' := [b0]) fun c hc => by rw [List.mem_singleton.mp hc]; exact .inr n1).same s1
    refine ⟨.ref b0, rfl, b0, 1, 6, 4000, rfl, by decide, by decide, by decide, B1, by decide, fun H2 am ms k2 B2 n2 e2 M hml => ?_⟩
    have S2 := S1.keep k2 (fun c hc => hc)
    have nb0 : am ≠ b0 := by
      obtain ⟨x, hx⟩ := B1.lst
      exact Ne.symm (ne_of_none hx n2)
    have hmsl : (sv ms).length = ms.length := List.length_map _
    refine ⟨.ref b0, rfl, .ref am, rfl, b0, am, sv ms, 4001, rfl, e2, by rw [hmsl]; exact M.lo, by rw [hmsl]; have := M.hi; omega, nb0, B2, by decide, fun H3 v k3 B3 mv => ?_⟩
    obtain ⟨p, pm, rfl⟩ := mem_sv mv
    refine ⟨.ref b0, rfl, b0, 4, 4002, rfl, by decide, by decide, B3, by decide, fun H4 style k4 B4 t0 t4 => ?_⟩
    refine ⟨.str p, .int style, rfl, ?_⟩
    have S4 := (S2.keep k3 (fun c hc => hc)).keep k4 (fun c hc => hc)
    have e4 := k4 _ _ (k3 _ _ e2 (by simpa using nb0)) (by simpa using nb0)
    refine ⟨.ref am, rfl, .str p, rfl, fun x dx nx ndx nex => ?_⟩
    have sx : Same H4 (upd (upd H4 dx (.own x)) x (.ins T.C_Group dx [])) := (same_new ndx).trans (same_new (by rw [upd_ne (Ne.symm nex)]; exact nx))
    refine ⟨H4, x, dx, am, ms, p, rfl, nx, sx, upd_same, e4, M, pm, fun H5 A s5 eg ga fresh => ⟨rfl, ?_⟩⟩
    subst eg
    refine ⟨.str p, rfl, (by show 1 ≤ sizeLine; decide), fun hh nhh => ⟨.ref A.g, .ref hh, rfl, ?_⟩⟩
    have s6 : Same H5 (upd H5 hh (.lst (sv [p]))) := same_new nhh
    have e6 : (upd H5 hh (.lst (sv [p]))) hh = some (.lst (sv [p])) := upd_same
    show tSeq _ _ _ _ (upd H5 hh (.lst (sv [p])))
    generalize upd H5 hh (.lst (sv [p])) = H6 at s6 e6
    refine dict_lists (i := 2) (j := 12) rfl (by show 12 < 13; decide) (s6 _ _ (s5 _ _ e4)) M.nd (by have := M.hi; omega) fun H7 kd ad s7 dn7 => ?_
    have G5 : GS T.C_Group T.C_Auditor H5 A ms p [p] (fun _ => 0) := ⟨M, ⟨[], rfl⟩, fun x hx => by rw [List.mem_singleton.mp hx]; exact pm, by show 1 ≤ 500; decide, fun _ _ => Nat.zero_le _, [], Nat.zero_le _, ga⟩
    have am4 : ∀ c, H4 c = none → am ≠ c := fun c hc => ne_of_none e4 hc
    have L7 : Law T.C_Group T.C_Auditor H7 A ms p [p] (fun _ => 0) am hh kd ad := by
      have g6 := G5.same s6
      refine ⟨g6.same s7, Hist.one pm, s7 _ _ (s6 _ _ (s5 _ _ e4)), s7 _ _ e6, dn7.dl.congr fun _ _ => rfl, dn7.inj, fun z => am4 am (fresh am z) rfl, fun z => G5.stand hh z nhh, fun z => g6.stand kd z dn7.d0, fun m hm z => g6.stand _ z (dn7.new m hm), ?_, fun m hm z => ?_, fun m hm z => ?_⟩
      · exact ne_of_none (s5 _ _ e4) nhh
      · have := dn7.new m hm
        rw [z, s6 _ _ (s5 _ _ e4)] at this
        cases this
      · have := dn7.new m hm
        rw [z, e6] at this
        cases this
    have S7 : Scr K H7 sc (ns.map V.int) (hh :: (ms.map ad ++ A.wr ms)) := by
      have a1 := (S4.grow (L' := b0 :: A.wr ms) fun c hc => by
        rcases List.mem_cons.mp hc with rfl | hc
        · exact .inl List.mem_cons_self
        · exact .inr (fresh c (by simp [hc]))).same s5
      have a2 := (a1.grow (L' := hh :: A.wr ms) fun c hc => by
        rcases List.mem_cons.mp hc with rfl | hc
        · exact .inr nhh
        · exact .inl (List.mem_cons_of_mem _ hc)).same s6
      refine (a2.grow fun c hc => ?_).same s7
      rcases List.mem_cons.mp hc with rfl | hc
      · exact .inl List.mem_cons_self
      · rcases List.mem_append.mp hc with hc | hc
        · obtain ⟨m, hm, rfl⟩ := List.mem_map.mp hc
          exact .inr (dn7.new m hm)
        · exact .inl (List.mem_cons_of_mem _ hc)
    -- the rounds
    have nsl : (ns.map V.int).length = ns.length := List.length_map _
    refine ⟨.ref sc, rfl, sc, ns.map V.int, rfl, .inl S7.seq, _, _, rfl, _, _, rfl, _, _, rfl, ⟨by decide, by decide, ?_, ?_⟩, ?_⟩
    · show -(2 ^ 62) ≤ (if (if ((ns.map V.int).length : Int) < 14 then ((ns.map V.int).length : Int) else 14) > 9 then _ else 9)
      split <;> split <;> omega
    · show (if (if ((ns.map V.int).length : Int) < 14 then ((ns.map V.int).length : Int) else 14) > 9 then (if ((ns.map V.int).length : Int) < 14 then ((ns.map V.int).length : Int) else 14) else 9) < 2 ^ 62
      split <;> split <;> omega
    have hN : ((if (if ((ns.map V.int).length : Int) < 14 then ((ns.map V.int).length : Int) else 14) > 9 then (if ((ns.map V.int).length : Int) < 14 then ((ns.map V.int).length : Int) else 14) else 9) - 1).toNat ≤ 13 := by
      split <;> split <;> omega
    generalize ((if (if ((ns.map V.int).length : Int) < 14 then ((ns.map V.int).length : Int) else 14) > 9 then (if ((ns.map V.int).length : Int) < 14 then ((ns.map V.int).length : Int) else 14) else 9) - 1).toNat = N at hN
    refine for_it (walk_range (lo := 1) (n := N)) (fun i σ H => ∃ (h : List Str) (k : Str → Nat) (kd : Addr) (ad : Str → Addr) (x1 x8 x9 x10 x11 : Option V), σ = [some (.ref sc), x1, some (.ref am), some (.str p), some (.int style), some (.ref A.g), some (.ref hh), some (.ref kd), x8, x9, x10, x11, none] ∧
      Law T.C_Group T.C_Auditor H A ms p h k am hh kd ad ∧ h.length ≤ 1 + 6 * i ∧ Scr K H sc (ns.map V.int) (hh :: (ms.map ad ++ A.wr ms))) ?_ (fun _ _ _ _ _ => True.intro) ?_ ?_
    · exact ⟨[p], fun _ => 0, kd, ad, _, none, none, none, none, rfl, L7, by simp, S7⟩
    · rintro i v σ H0 H8 hi ⟨h, k, kd, ad, x1, x8, x9, x10, x11, rfl, L8, hl8, S8⟩ ⟨rfl, rfl⟩
      refine ⟨.ref sc, rfl, .int (1 + (i : Int)), rfl, sc, ns, 1 + i, (by rw [Int.natCast_add]; rfl), S8.seq, by omega, fun H9 b s9 nb9 B9 => ?_⟩
      have L9 := L8.same s9
      have nbA : b ∉ A.all ms := fun z => L8.g.stand b z nb9
      have nba : b ≠ am := Ne.symm (ne_of_none L8.ha nb9)
      have nbh : b ≠ hh := Ne.symm (ne_of_none L8.eh nb9)
      have nbk : b ≠ kd := Ne.symm (ne_of_none L8.kn.dict nb9)
      have nbd : ∀ m ∈ ms, b ≠ ad m := fun m hm => Ne.symm (ne_of_none (L8.kn.at_ m hm) nb9)
      have S9 : Scr K H9 sc (ns.map V.int) (b :: hh :: (ms.map ad ++ A.wr ms)) := (S8.grow fun c hc => by
        rcases List.mem_cons.mp hc with rfl | hc
        · exact .inr nb9
        · exact .inl hc).same s9
      refine ⟨6, rfl, by decide, by decide, ?_⟩
      refine for_it (walk_range (lo := 0) (n := 6)) (fun t σ H => ∃ (h : List Str) (k : Str → Nat) (x9 : Option V), σ = [some (.ref sc), some (.ref b), some (.ref am), some (.str p), some (.int style), some (.ref A.g), some (.ref hh), some (.ref kd), some (.int (1 + (i : Int))), x9, x10, x11, none] ∧
        Law T.C_Group T.C_Auditor H A ms p h k am hh kd ad ∧ h.length ≤ 1 + 6 * i + t ∧ Bag H b (4000 + 10 * t) ∧ Scr K H sc (ns.map V.int) (b :: hh :: (ms.map ad ++ A.wr ms))) ?_ (fun _ _ _ _ _ => True.intro) ?_ ?_
      · exact ⟨h, k, x9, rfl, L9, by omega, B9, S9⟩
      · rintro t v σ H0 H10 ht ⟨h, k, y9, rfl, L10, hl10, B10, S10⟩ ⟨rfl, rfl⟩
        refine ⟨.ref b, rfl, .ref am, rfl, .ref A.g, rfl, .ref hh, rfl, .ref kd, rfl, .int style, rfl, A, b, am, hh, kd, ad, ms, p, h, k, style, 4000 + 10 * t, rfl, L10, by omega, t0, t4, B10, by omega, nbA, nba, nbh, nbk, nbd, fun H11 h' k' k11 B11 L11 hl11 => ⟨true, rfl, iteF ?_⟩⟩
        have S11 := S10.keep k11 (fun c hc => hc)
        refine ⟨.ref am, rfl, .ref A.g, rfl, .ref hh, rfl, .ref kd, rfl, A, am, hh, kd, ad, ms, p, h', k', rfl, L11.ha, L11.g, L11.eh, L11.kn, fun H12 s12 => ⟨true, rfl, iteF ?_⟩⟩
        exact ⟨h', k', _, rfl, L11.same s12, by omega, B11.keep (W := []) (Keep.of_same s12) (by simp), S11.same s12⟩
      · rintro σ H10 ⟨h, k, y9, rfl, L10, hl10, B10, S10⟩
        refine ⟨.ref b, rfl, b, 6, _, rfl, by decide, by decide, B10, by decide, fun H11 r k11 B11 r0 r6 => ⟨rfl, _, rfl, ?_⟩⟩
        have L11 := L10.keep k11 nbA nba nbh nbk nbd
        have S11 := (S10.keep k11 (fun c hc => by rw [List.mem_singleton.mp hc]; exact List.mem_cons_self)).grow (L' := hh :: (ms.map ad ++ A.wr ms)) fun c hc => .inl (List.mem_cons_of_mem _ hc)
        refine ite2 (fun _ => ?_) (fun _ => ?_)
        · refine ⟨.ref am, rfl, .ref hh, rfl, am, hh, ms, h, rfl, L11.ha, L11.eh, M.nd, by have := M.hi; omega, by omega, L11.g.hm, fun H12 d a' s12 dn12 => ?_⟩
          have L12 := L11.same s12
          have S12 := (S11.grow (L' := hh :: (ms.map a' ++ A.wr ms)) fun c hc => by
            rcases List.mem_cons.mp hc with rfl | hc
            · exact .inl List.mem_cons_self
            · rcases List.mem_append.mp hc with hc | hc
              · obtain ⟨m, hm, rfl⟩ := List.mem_map.mp hc
                exact .inr (dn12.new m hm)
              · exact .inl (List.mem_cons_of_mem _ (List.mem_append_right _ hc))).same s12
          -- many = sum(..)
          refine ⟨.ref am, rfl, am, rfl, ⟨_, sqL L12.ha⟩, fun D nD => lc_it (walk_sv ms) (fun j H13 => Same H12 H13 ∧ H13 D = some (.lst ((ms.take j).map fun m => .int (((givers m h).length - k m : Nat) : Int)))) ⟨same_new nD, upd_same⟩ (fun j H13 _ pp => sqL (pp.1 _ _ L12.ha)) ?_ ?_⟩
          · rintro j v H0 H13 hj ⟨s13, e13⟩ ⟨rfl, m, hm, rfl⟩
            have mm := List.mem_of_getElem? hm
            have L13 := L12.same s13
            have dn13 := dn12.dl.same s13
            refine ⟨rfl, .ref d, rfl, .str m, rfl, d, .ref (a' m), rfl, dn13.get mm, a' m, sv (givers m h), rfl, .inl (sqL (dn13.at_ m mm)), .ref kd, rfl, .str m, rfl, kd, .ref (ad m), rfl, L13.kn.get mm, ad m, sv ((givers m h).take (k m)), rfl, .inl (sqL (L13.kn.at_ m mm)), _, _, rfl, rfl,
              (ms.take j).map fun m => .int (((givers m h).length - k m : Nat) : Int), e13, ?_, same_mut s13 nD, ?_⟩
            · rw [List.length_map, List.length_take]
              exact sz (by have := M.hi; omega)
            · have e : (((sv (givers m h)).length : Int) - ((sv ((givers m h).take (k m))).length : Int)) = (((givers m h).length - k m : Nat) : Int) := by
                have := L11.g.kl m mm
                rw [List.length_map, List.length_map, List.length_take]
                omega
              rw [upd_same, take_snoc hm, List.map_append]
              show some (HO.lst (_ ++ [V.int (((sv (givers m h)).length : Int) - ((sv ((givers m h).take (k m))).length : Int))])) = _
              rw [e]
              rfl
          · rintro H13 ⟨s13, e13⟩
            rw [List.take_of_length_le (Nat.le_refl _)] at e13
            refine ⟨D, ms.map fun m => (((givers m h).length - k m : Nat) : Int), rfl, sqL (by rw [e13, List.map_map]; rfl), ?_⟩
            have L13 := L12.same s13
            obtain ⟨rc13, _, ga13⟩ := L13.g.at_
            refine ⟨.ref A.g, rfl, A.g, A.dg, _, rfl, ga13.ob, rfl, A, ms, p, h, k, rfl, L13.g, fun m hm y hy => givers_ne L13.hist.adj hy, fun H14 k14 g14 => ⟨_, rfl, rfl, _, rfl, ?_⟩⟩
            rw [decide_eq_true (by rw [cast_sum])]
            refine iteF ⟨.ref d, rfl, ?_⟩
            have ne2 : ∀ c, c ∉ A.all ms → c ∉ A.wr ms := fun c hc hz => hc (GA.wr_all hz)
            have nd' : ∀ c, H11 c = none → c ∉ A.all ms := fun c hc z => L11.g.stand c z hc
            refine ⟨h, fun m => (givers m h).length, d, a', _, _, _, _, _, rfl, ⟨g14, L13.hist, k14 _ _ L13.ha (ne2 _ L13.na), k14 _ _ L13.eh (ne2 _ L13.nh), ?_, dn12.inj, L13.na, L13.nh, nd' d dn12.d0, fun m hm => nd' _ (dn12.new m hm), L13.ah, fun m hm z => ?_, fun m hm z => ?_⟩, by omega, (S12.same s13).keep k14 (fun c hc => List.mem_cons_of_mem _ (List.mem_append_right _ hc))⟩
            · refine ((dn12.dl.same s13).keep k14 (ne2 d (nd' d dn12.d0)) (fun m hm => ne2 _ (nd' _ (dn12.new m hm)))).congr fun m hm => ?_
              rw [List.take_of_length_le (Nat.le_refl _)]
            · have := dn12.new m hm
              rw [z, L11.ha] at this
              cases this
            · have := dn12.new m hm
              rw [z, L11.eh] at this
              cases this
        · exact ⟨h, k, kd, ad, _, _, _, _, _, rfl, L11, by omega, S11⟩
    · rintro σ H8 ⟨h, k, kd, ad, x1, x8, x9, x10, x11, rfl, L8, hl8, S8⟩
      obtain ⟨rc8, _, ga8⟩ := L8.g.at_
      refine ⟨.ref A.g, rfl, A.g, A.dg, _, rfl, ga8.ob, rfl, A, ms, p, h, k, rfl, L8.g, fun m hm y hy => givers_ne L8.hist.adj hy, fun H9 k9 g9 => ⟨_, _, rfl, rfl, _, rfl, ?_⟩⟩
      rw [decide_eq_true (show (0 : Int) ≤ (((ms.map fun m => (givers m h).length - k m).sum : Nat) : Int) by omega)]
      refine iteT ?_
      have ne2 : ∀ c, c ∉ A.all ms → c ∉ A.wr ms := fun c hc hz => hc (GA.wr_all hz)
      have ha9 := k9 _ _ L8.ha (ne2 _ L8.na)
      have hh9 := k9 _ _ L8.eh (ne2 _ L8.nh)
      obtain ⟨rc9, _, ga9⟩ := g9.at_
      refine ⟨.ref A.g, rfl, A.g, A.dg, _, rfl, ga9.ob, rfl, A, ms, p, h, _, rfl, g9, fun H10 d1 a1 s10 dn10 => ?_⟩
      refine ⟨.ref am, rfl, .ref hh, rfl, am, hh, ms, h, rfl, s10 _ _ ha9, s10 _ _ hh9, M.nd, by have := M.hi; omega, by omega, L8.g.hm, fun H11 d2 a2 s11 dn11 => ?_⟩
      have dl10 := dn10.dl.same s11
      exact ⟨3, by decide, .inr ⟨d1, d2, _, _, rfl, rfl, dl10.dict, dn11.dl.dict, (by rw [mkd_len, mkd_len]), dl10.eqs dn11.dl (fun m _ => List.take_of_length_le (Nat.le_refl _)) 1⟩, q H11⟩
end
/-! ### what the top has written (printed by gen.py) -/
theorem all_mk {l : PySem.W.OpenLaw} {w : World} {K : PySem.W.Frag} {h : Heap} {mg : Str → Option Value} {fa f_is_name f_is_members f_need_members f_need_one_of f_Auditor_init f_Auditor_ring_by f_Auditor_receive f_Auditor_received_lists f_Group_init f_Group_hand_to f_Group_holder_now f_Group_history_so_far f_Group_lists_so_far f_Group_waiting f_Group_deliver_from f_Group_deliver_all f_Group_reports_in_transit f_Group_known_so_far f_l_bag f_l_take f_l_pick f_l_members f_l_walk f_l_lists f_l_equal f_l_call_right f_law C_Auditor C_Group : Addr} (X : K.In h) (G : h.Ns mainGlobals mg) (hfa : mg "law" = some (.ref fa))
    {od1 an1 : Option Addr} {sl1 : Array (Option Value)} {oc1 kV1 dc1 pm1 cd1 ct1 : Value} {od2 an2 : Option Addr} {sl2 : Array (Option Value)} {oc2 kV2 dc2 pm2 cd2 ct2 : Value} {od3 an3 : Option Addr} {sl3 : Array (Option Value)} {oc3 kV3 dc3 pm3 cd3 ct3 : Value} {od4 an4 : Option Addr} {sl4 : Array (Option Value)} {oc4 kV4 dc4 pm4 cd4 ct4 : Value} {od5 an5 : Option Addr} {sl5 : Array (Option Value)} {oc5 kV5 dc5 pm5 cd5 ct5 : Value} {od6 an6 : Option Addr} {sl6 : Array (Option Value)} {oc6 kV6 dc6 pm6 cd6 ct6 : Value} {od7 an7 : Option Addr} {sl7 : Array (Option Value)} {oc7 kV7 dc7 pm7 cd7 ct7 : Value} {od8 an8 : Option Addr} {sl8 : Array (Option Value)} {oc8 kV8 dc8 pm8 cd8 ct8 : Value} {od9 an9 : Option Addr} {sl9 : Array (Option Value)} {oc9 kV9 dc9 pm9 cd9 ct9 : Value} {od10 an10 : Option Addr} {sl10 : Array (Option Value)} {oc10 kV10 dc10 pm10 cd10 ct10 : Value} {od11 an11 : Option Addr} {sl11 : Array (Option Value)} {oc11 kV11 dc11 pm11 cd11 ct11 : Value} {od12 an12 : Option Addr} {sl12 : Array (Option Value)} {oc12 kV12 dc12 pm12 cd12 ct12 : Value} {od13 an13 : Option Addr} {sl13 : Array (Option Value)} {oc13 kV13 dc13 pm13 cd13 ct13 : Value} {od14 an14 : Option Addr} {sl14 : Array (Option Value)} {oc14 kV14 dc14 pm14 cd14 ct14 : Value} {od15 an15 : Option Addr} {sl15 : Array (Option Value)} {oc15 kV15 dc15 pm15 cd15 ct15 : Value} {od16 an16 : Option Addr} {sl16 : Array (Option Value)} {oc16 kV16 dc16 pm16 cd16 ct16 : Value} {od17 an17 : Option Addr} {sl17 : Array (Option Value)} {oc17 kV17 dc17 pm17 cd17 ct17 : Value} {od18 an18 : Option Addr} {sl18 : Array (Option Value)} {oc18 kV18 dc18 pm18 cd18 ct18 : Value} {od19 an19 : Option Addr} {sl19 : Array (Option Value)} {oc19 kV19 dc19 pm19 cd19 ct19 : Value} {od20 an20 : Option Addr} {sl20 : Array (Option Value)} {oc20 kV20 dc20 pm20 cd20 ct20 : Value} {od21 an21 : Option Addr} {sl21 : Array (Option Value)} {oc21 kV21 dc21 pm21 cd21 ct21 : Value} {od22 an22 : Option Addr} {sl22 : Array (Option Value)} {oc22 kV22 dc22 pm22 cd22 ct22 : Value} {od23 an23 : Option Addr} {sl23 : Array (Option Value)} {oc23 kV23 dc23 pm23 cd23 ct23 : Value} {od24 an24 : Option Addr} {sl24 : Array (Option Value)} {oc24 kV24 dc24 pm24 cd24 ct24 : Value} {od25 an25 : Option Addr} {sl25 : Array (Option Value)} {oc25 kV25 dc25 pm25 cd25 ct25 : Value} {od26 an26 : Option Addr} {sl26 : Array (Option Value)} {oc26 kV26 dc26 pm26 cd26 ct26 : Value} {od27 an27 : Option Addr} {sl27 : Array (Option Value)} {oc27 kV27 dc27 pm27 cd27 ct27 : Value} {t_LETTERS : Tok} {t_MAX_LETTERS : Tok} {t_MAX_MEMBERS : Tok}
    (a1 : PySem.W.nsIn K mainGlobals "is_name" = some (some (.ref f_is_name)))
    (l1 : K.lookup f_is_name = some ⟨oc1, od1, .func (PySem.W.fnOf "is_name" "is_name" (defArgs s_is_name) (defBody s_is_name) (defScope s_is_name) .none kV1 dc1 pm1 an1 cd1 ct1), sl1⟩)
    (c1 : PySem.W.codeIn K cd1 "is_name" = true) (k1 : PySem.W.keepIn K (.ref f_is_name) = true)
    (a2 : PySem.W.nsIn K mainGlobals "is_members" = some (some (.ref f_is_members)))
    (l2 : K.lookup f_is_members = some ⟨oc2, od2, .func (PySem.W.fnOf "is_members" "is_members" (defArgs s_is_members) (defBody s_is_members) (defScope s_is_members) .none kV2 dc2 pm2 an2 cd2 ct2), sl2⟩)
    (c2 : PySem.W.codeIn K cd2 "is_members" = true) (k2 : PySem.W.keepIn K (.ref f_is_members) = true)
    (a3 : PySem.W.nsIn K mainGlobals "need_members" = some (some (.ref f_need_members)))
    (l3 : K.lookup f_need_members = some ⟨oc3, od3, .func (PySem.W.fnOf "need_members" "need_members" (defArgs s_need_members) (defBody s_need_members) (defScope s_need_members) .none kV3 dc3 pm3 an3 cd3 ct3), sl3⟩)
    (c3 : PySem.W.codeIn K cd3 "need_members" = true) (k3 : PySem.W.keepIn K (.ref f_need_members) = true)
    (a4 : PySem.W.nsIn K mainGlobals "need_one_of" = some (some (.ref f_need_one_of)))
    (l4 : K.lookup f_need_one_of = some ⟨oc4, od4, .func (PySem.W.fnOf "need_one_of" "need_one_of" (defArgs s_need_one_of) (defBody s_need_one_of) (defScope s_need_one_of) .none kV4 dc4 pm4 an4 cd4 ct4), sl4⟩)
    (c4 : PySem.W.codeIn K cd4 "need_one_of" = true) (k4 : PySem.W.keepIn K (.ref f_need_one_of) = true)
    (a5 : PySem.W.findIn K (.ref C_Auditor) "__init__" = some (some (.ref f_Auditor_init)))
    (i5 : PySem.W.isFn K (.ref f_Auditor_init) = true)
    (l5 : K.lookup f_Auditor_init = some ⟨oc5, od5, .func (PySem.W.fnOf "__init__" "Auditor.__init__" (defArgs s_Auditor_init) (defBody s_Auditor_init) (defScope s_Auditor_init) .none kV5 dc5 pm5 an5 cd5 ct5), sl5⟩)
    (c5 : PySem.W.codeIn K cd5 "Auditor.__init__" = true) (k5 : PySem.W.keepIn K (.ref f_Auditor_init) = true)
    (a6 : PySem.W.findIn K (.ref C_Auditor) "ring_by" = some (some (.ref f_Auditor_ring_by)))
    (i6 : PySem.W.isFn K (.ref f_Auditor_ring_by) = true)
    (l6 : K.lookup f_Auditor_ring_by = some ⟨oc6, od6, .func (PySem.W.fnOf "ring_by" "Auditor.ring_by" (defArgs s_Auditor_ring_by) (defBody s_Auditor_ring_by) (defScope s_Auditor_ring_by) .none kV6 dc6 pm6 an6 cd6 ct6), sl6⟩)
    (c6 : PySem.W.codeIn K cd6 "Auditor.ring_by" = true) (k6 : PySem.W.keepIn K (.ref f_Auditor_ring_by) = true)
    (a7 : PySem.W.findIn K (.ref C_Auditor) "receive" = some (some (.ref f_Auditor_receive)))
    (i7 : PySem.W.isFn K (.ref f_Auditor_receive) = true)
    (l7 : K.lookup f_Auditor_receive = some ⟨oc7, od7, .func (PySem.W.fnOf "receive" "Auditor.receive" (defArgs s_Auditor_receive) (defBody s_Auditor_receive) (defScope s_Auditor_receive) .none kV7 dc7 pm7 an7 cd7 ct7), sl7⟩)
    (c7 : PySem.W.codeIn K cd7 "Auditor.receive" = true) (k7 : PySem.W.keepIn K (.ref f_Auditor_receive) = true)
    (a8 : PySem.W.findIn K (.ref C_Auditor) "received_lists" = some (some (.ref f_Auditor_received_lists)))
    (i8 : PySem.W.isFn K (.ref f_Auditor_received_lists) = true)
    (l8 : K.lookup f_Auditor_received_lists = some ⟨oc8, od8, .func (PySem.W.fnOf "received_lists" "Auditor.received_lists" (defArgs s_Auditor_received_lists) (defBody s_Auditor_received_lists) (defScope s_Auditor_received_lists) .none kV8 dc8 pm8 an8 cd8 ct8), sl8⟩)
    (c8 : PySem.W.codeIn K cd8 "Auditor.received_lists" = true) (k8 : PySem.W.keepIn K (.ref f_Auditor_received_lists) = true)
    (a9 : PySem.W.findIn K (.ref C_Group) "__init__" = some (some (.ref f_Group_init)))
    (i9 : PySem.W.isFn K (.ref f_Group_init) = true)
    (l9 : K.lookup f_Group_init = some ⟨oc9, od9, .func (PySem.W.fnOf "__init__" "Group.__init__" (defArgs s_Group_init) (defBody s_Group_init) (defScope s_Group_init) .none kV9 dc9 pm9 an9 cd9 ct9), sl9⟩)
    (c9 : PySem.W.codeIn K cd9 "Group.__init__" = true) (k9 : PySem.W.keepIn K (.ref f_Group_init) = true)
    (a10 : PySem.W.findIn K (.ref C_Group) "hand_to" = some (some (.ref f_Group_hand_to)))
    (i10 : PySem.W.isFn K (.ref f_Group_hand_to) = true)
    (l10 : K.lookup f_Group_hand_to = some ⟨oc10, od10, .func (PySem.W.fnOf "hand_to" "Group.hand_to" (defArgs s_Group_hand_to) (defBody s_Group_hand_to) (defScope s_Group_hand_to) .none kV10 dc10 pm10 an10 cd10 ct10), sl10⟩)
    (c10 : PySem.W.codeIn K cd10 "Group.hand_to" = true) (k10 : PySem.W.keepIn K (.ref f_Group_hand_to) = true)
    (a11 : PySem.W.findIn K (.ref C_Group) "holder_now" = some (some (.ref f_Group_holder_now)))
    (i11 : PySem.W.isFn K (.ref f_Group_holder_now) = true)
    (l11 : K.lookup f_Group_holder_now = some ⟨oc11, od11, .func (PySem.W.fnOf "holder_now" "Group.holder_now" (defArgs s_Group_holder_now) (defBody s_Group_holder_now) (defScope s_Group_holder_now) .none kV11 dc11 pm11 an11 cd11 ct11), sl11⟩)
    (c11 : PySem.W.codeIn K cd11 "Group.holder_now" = true) (k11 : PySem.W.keepIn K (.ref f_Group_holder_now) = true)
    (a12 : PySem.W.findIn K (.ref C_Group) "history_so_far" = some (some (.ref f_Group_history_so_far)))
    (i12 : PySem.W.isFn K (.ref f_Group_history_so_far) = true)
    (l12 : K.lookup f_Group_history_so_far = some ⟨oc12, od12, .func (PySem.W.fnOf "history_so_far" "Group.history_so_far" (defArgs s_Group_history_so_far) (defBody s_Group_history_so_far) (defScope s_Group_history_so_far) .none kV12 dc12 pm12 an12 cd12 ct12), sl12⟩)
    (c12 : PySem.W.codeIn K cd12 "Group.history_so_far" = true) (k12 : PySem.W.keepIn K (.ref f_Group_history_so_far) = true)
    (a13 : PySem.W.findIn K (.ref C_Group) "lists_so_far" = some (some (.ref f_Group_lists_so_far)))
    (i13 : PySem.W.isFn K (.ref f_Group_lists_so_far) = true)
    (l13 : K.lookup f_Group_lists_so_far = some ⟨oc13, od13, .func (PySem.W.fnOf "lists_so_far" "Group.lists_so_far" (defArgs s_Group_lists_so_far) (defBody s_Group_lists_so_far) (defScope s_Group_lists_so_far) .none kV13 dc13 pm13 an13 cd13 ct13), sl13⟩)
    (c13 : PySem.W.codeIn K cd13 "Group.lists_so_far" = true) (k13 : PySem.W.keepIn K (.ref f_Group_lists_so_far) = true)
    (a14 : PySem.W.findIn K (.ref C_Group) "waiting" = some (some (.ref f_Group_waiting)))
    (i14 : PySem.W.isFn K (.ref f_Group_waiting) = true)
    (l14 : K.lookup f_Group_waiting = some ⟨oc14, od14, .func (PySem.W.fnOf "waiting" "Group.waiting" (defArgs s_Group_waiting) (defBody s_Group_waiting) (defScope s_Group_waiting) .none kV14 dc14 pm14 an14 cd14 ct14), sl14⟩)
    (c14 : PySem.W.codeIn K cd14 "Group.waiting" = true) (k14 : PySem.W.keepIn K (.ref f_Group_waiting) = true)
    (a15 : PySem.W.findIn K (.ref C_Group) "deliver_from" = some (some (.ref f_Group_deliver_from)))
    (i15 : PySem.W.isFn K (.ref f_Group_deliver_from) = true)
    (l15 : K.lookup f_Group_deliver_from = some ⟨oc15, od15, .func (PySem.W.fnOf "deliver_from" "Group.deliver_from" (defArgs s_Group_deliver_from) (defBody s_Group_deliver_from) (defScope s_Group_deliver_from) .none kV15 dc15 pm15 an15 cd15 ct15), sl15⟩)
    (c15 : PySem.W.codeIn K cd15 "Group.deliver_from" = true) (k15 : PySem.W.keepIn K (.ref f_Group_deliver_from) = true)
    (a16 : PySem.W.findIn K (.ref C_Group) "deliver_all" = some (some (.ref f_Group_deliver_all)))
    (i16 : PySem.W.isFn K (.ref f_Group_deliver_all) = true)
    (l16 : K.lookup f_Group_deliver_all = some ⟨oc16, od16, .func (PySem.W.fnOf "deliver_all" "Group.deliver_all" (defArgs s_Group_deliver_all) (defBody s_Group_deliver_all) (defScope s_Group_deliver_all) .none kV16 dc16 pm16 an16 cd16 ct16), sl16⟩)
    (c16 : PySem.W.codeIn K cd16 "Group.deliver_all" = true) (k16 : PySem.W.keepIn K (.ref f_Group_deliver_all) = true)
    (a17 : PySem.W.findIn K (.ref C_Group) "reports_in_transit" = some (some (.ref f_Group_reports_in_transit)))
    (i17 : PySem.W.isFn K (.ref f_Group_reports_in_transit) = true)
    (l17 : K.lookup f_Group_reports_in_transit = some ⟨oc17, od17, .func (PySem.W.fnOf "reports_in_transit" "Group.reports_in_transit" (defArgs s_Group_reports_in_transit) (defBody s_Group_reports_in_transit) (defScope s_Group_reports_in_transit) .none kV17 dc17 pm17 an17 cd17 ct17), sl17⟩)
    (c17 : PySem.W.codeIn K cd17 "Group.reports_in_transit" = true) (k17 : PySem.W.keepIn K (.ref f_Group_reports_in_transit) = true)
    (a18 : PySem.W.findIn K (.ref C_Group) "known_so_far" = some (some (.ref f_Group_known_so_far)))
    (i18 : PySem.W.isFn K (.ref f_Group_known_so_far) = true)
    (l18 : K.lookup f_Group_known_so_far = some ⟨oc18, od18, .func (PySem.W.fnOf "known_so_far" "Group.known_so_far" (defArgs s_Group_known_so_far) (defBody s_Group_known_so_far) (defScope s_Group_known_so_far) .none kV18 dc18 pm18 an18 cd18 ct18), sl18⟩)
    (c18 : PySem.W.codeIn K cd18 "Group.known_so_far" = true) (k18 : PySem.W.keepIn K (.ref f_Group_known_so_far) = true)
    (a19 : PySem.W.nsIn K mainGlobals "_law_bag" = some (some (.ref f_l_bag)))
    (l19 : K.lookup f_l_bag = some ⟨oc19, od19, .func (PySem.W.fnOf "_law_bag" "_law_bag" (defArgs s_l_bag) (defBody s_l_bag) (defScope s_l_bag) .none kV19 dc19 pm19 an19 cd19 ct19), sl19⟩)
    (c19 : PySem.W.codeIn K cd19 "_law_bag" = true) (k19 : PySem.W.keepIn K (.ref f_l_bag) = true)
    (a20 : PySem.W.nsIn K mainGlobals "_law_take" = some (some (.ref f_l_take)))
    (l20 : K.lookup f_l_take = some ⟨oc20, od20, .func (PySem.W.fnOf "_law_take" "_law_take" (defArgs s_l_take) (defBody s_l_take) (defScope s_l_take) .none kV20 dc20 pm20 an20 cd20 ct20), sl20⟩)
    (c20 : PySem.W.codeIn K cd20 "_law_take" = true) (k20 : PySem.W.keepIn K (.ref f_l_take) = true)
    (a21 : PySem.W.nsIn K mainGlobals "_law_pick" = some (some (.ref f_l_pick)))
    (l21 : K.lookup f_l_pick = some ⟨oc21, od21, .func (PySem.W.fnOf "_law_pick" "_law_pick" (defArgs s_l_pick) (defBody s_l_pick) (defScope s_l_pick) .none kV21 dc21 pm21 an21 cd21 ct21), sl21⟩)
    (c21 : PySem.W.codeIn K cd21 "_law_pick" = true) (k21 : PySem.W.keepIn K (.ref f_l_pick) = true)
    (a22 : PySem.W.nsIn K mainGlobals "_law_members" = some (some (.ref f_l_members)))
    (l22 : K.lookup f_l_members = some ⟨oc22, od22, .func (PySem.W.fnOf "_law_members" "_law_members" (defArgs s_l_members) (defBody s_l_members) (defScope s_l_members) .none kV22 dc22 pm22 an22 cd22 ct22), sl22⟩)
    (c22 : PySem.W.codeIn K cd22 "_law_members" = true) (k22 : PySem.W.keepIn K (.ref f_l_members) = true)
    (a23 : PySem.W.nsIn K mainGlobals "_law_walk" = some (some (.ref f_l_walk)))
    (l23 : K.lookup f_l_walk = some ⟨oc23, od23, .func (PySem.W.fnOf "_law_walk" "_law_walk" (defArgs s_l_walk) (defBody s_l_walk) (defScope s_l_walk) .none kV23 dc23 pm23 an23 cd23 ct23), sl23⟩)
    (c23 : PySem.W.codeIn K cd23 "_law_walk" = true) (k23 : PySem.W.keepIn K (.ref f_l_walk) = true)
    (a24 : PySem.W.nsIn K mainGlobals "_law_lists" = some (some (.ref f_l_lists)))
    (l24 : K.lookup f_l_lists = some ⟨oc24, od24, .func (PySem.W.fnOf "_law_lists" "_law_lists" (defArgs s_l_lists) (defBody s_l_lists) (defScope s_l_lists) .none kV24 dc24 pm24 an24 cd24 ct24), sl24⟩)
    (c24 : PySem.W.codeIn K cd24 "_law_lists" = true) (k24 : PySem.W.keepIn K (.ref f_l_lists) = true)
    (a25 : PySem.W.nsIn K mainGlobals "_law_equal" = some (some (.ref f_l_equal)))
    (l25 : K.lookup f_l_equal = some ⟨oc25, od25, .func (PySem.W.fnOf "_law_equal" "_law_equal" (defArgs s_l_equal) (defBody s_l_equal) (defScope s_l_equal) .none kV25 dc25 pm25 an25 cd25 ct25), sl25⟩)
    (c25 : PySem.W.codeIn K cd25 "_law_equal" = true) (k25 : PySem.W.keepIn K (.ref f_l_equal) = true)
    (a26 : PySem.W.nsIn K mainGlobals "_law_call_right" = some (some (.ref f_l_call_right)))
    (l26 : K.lookup f_l_call_right = some ⟨oc26, od26, .func (PySem.W.fnOf "_law_call_right" "_law_call_right" (defArgs s_l_call_right) (defBody s_l_call_right) (defScope s_l_call_right) .none kV26 dc26 pm26 an26 cd26 ct26), sl26⟩)
    (c26 : PySem.W.codeIn K cd26 "_law_call_right" = true) (k26 : PySem.W.keepIn K (.ref f_l_call_right) = true)
    (a27 : PySem.W.nsIn K mainGlobals "law" = some (some (.ref f_law)))
    (l27 : K.lookup f_law = some ⟨oc27, od27, .func (PySem.W.fnOf "law" "law" (defArgs s_law) (defBody s_law) (defScope s_law) .none kV27 dc27 pm27 an27 cd27 ct27), sl27⟩)
    (c27 : PySem.W.codeIn K cd27 "law" = true) (k27 : PySem.W.keepIn K (.ref f_law) = true)
    (pg_Auditor : PySem.W.plainGet K C_Auditor Str.empty = true)
    (hd_Auditor : PySem.W.hasDictIn K C_Auditor = true)
    (po_Auditor : PySem.W.plainOver K C_Auditor = true)
    (sa_Auditor : PySem.W.findIn K (.ref C_Auditor) "__setattr__" = some (some (.builtin "object.__setattr__")))
    (mk_Auditor : PySem.W.makesIn K C_Auditor = true)
    (kc_Auditor : PySem.W.keepIn K (.ref C_Auditor) = true)
    (aC_Auditor : PySem.W.nsIn K mainGlobals "Auditor" = some (some (.ref C_Auditor)))
    (na_Auditor_members : PySem.W.findIn K (.ref C_Auditor) "members" = some none)
    (na_Auditor_first : PySem.W.findIn K (.ref C_Auditor) "first" = some none)
    (na_Auditor_known : PySem.W.findIn K (.ref C_Auditor) "known" = some none)
    (na_Auditor_received : PySem.W.findIn K (.ref C_Auditor) "received" = some none)
    (pg_Group : PySem.W.plainGet K C_Group Str.empty = true)
    (hd_Group : PySem.W.hasDictIn K C_Group = true)
    (po_Group : PySem.W.plainOver K C_Group = true)
    (sa_Group : PySem.W.findIn K (.ref C_Group) "__setattr__" = some (some (.builtin "object.__setattr__")))
    (mk_Group : PySem.W.makesIn K C_Group = true)
    (kc_Group : PySem.W.keepIn K (.ref C_Group) = true)
    (aC_Group : PySem.W.nsIn K mainGlobals "Group" = some (some (.ref C_Group)))
    (na_Group_auditor : PySem.W.findIn K (.ref C_Group) "auditor" = some none)
    (na_Group_members : PySem.W.findIn K (.ref C_Group) "members" = some none)
    (na_Group_holders : PySem.W.findIn K (.ref C_Group) "holders" = some none)
    (na_Group_lists : PySem.W.findIn K (.ref C_Group) "lists" = some none)
    (co_LETTERS : PySem.W.nsIn K mainGlobals "LETTERS" = some (some (.str "abcdefghijklmnopqrstuvwxyz" t_LETTERS)))
    (co_MAX_LETTERS : PySem.W.nsIn K mainGlobals "MAX_LETTERS" = some (some (.int 8 t_MAX_LETTERS)))
    (co_MAX_MEMBERS : PySem.W.nsIn K mainGlobals "MAX_MEMBERS" = some (some (.int 12 t_MAX_MEMBERS)))
    (z_all : PySem.W.nsIn K mainGlobals "all" = some none)
    (z_dict : PySem.W.nsIn K mainGlobals "dict" = some none)
    (z_int : PySem.W.nsIn K mainGlobals "int" = some none)
    (z_isinstance : PySem.W.nsIn K mainGlobals "isinstance" = some none)
    (z_len : PySem.W.nsIn K mainGlobals "len" = some none)
    (z_list : PySem.W.nsIn K mainGlobals "list" = some none)
    (z_max : PySem.W.nsIn K mainGlobals "max" = some none)
    (z_min : PySem.W.nsIn K mainGlobals "min" = some none)
    (z_range : PySem.W.nsIn K mainGlobals "range" = some none)
    (z_sorted : PySem.W.nsIn K mainGlobals "sorted" = some none)
    (z_str : PySem.W.nsIn K mainGlobals "str" = some none)
    (z_sum : PySem.W.nsIn K mainGlobals "sum" = some none)
    (z_zip : PySem.W.nsIn K mainGlobals "zip" = some none) :
    ∃ fd : FuncData, (∀ (s : Shared) (v : Value), BindsTo s fd ⟨[v], []⟩ [("_law_script", v)]) ∧ ∀ base : Heap, K.In base → base.Ns mainGlobals mg → FnOk l.prog w K mg base CX0 8 fa fd ["_law_script"] (spLaw K) := by
  have e := hfa.symm.trans (PySem.W.mg_of X G a27)
  cases e
  let T : Txt K mg := {
    f_is_name := f_is_name
    fd_is_name := _
    F_is_name := fun_mk (st := s_is_name) l1 c1 k1
    b_is_name := ((fun_mk (st := s_is_name) l1 c1 k1).binds (ps := ["value"]) fun _ _ _ _ _ _ us hl => match us, hl with | [_], _ => rfl)
    g_is_name := PySem.W.mg_of X G a1
    f_is_members := f_is_members
    fd_is_members := _
    F_is_members := fun_mk (st := s_is_members) l2 c2 k2
    b_is_members := ((fun_mk (st := s_is_members) l2 c2 k2).binds (ps := ["value"]) fun _ _ _ _ _ _ us hl => match us, hl with | [_], _ => rfl)
    g_is_members := PySem.W.mg_of X G a2
    f_need_members := f_need_members
    fd_need_members := _
    F_need_members := fun_mk (st := s_need_members) l3 c3 k3
    b_need_members := ((fun_mk (st := s_need_members) l3 c3 k3).binds (ps := ["members"]) fun _ _ _ _ _ _ us hl => match us, hl with | [_], _ => rfl)
    g_need_members := PySem.W.mg_of X G a3
    f_need_one_of := f_need_one_of
    fd_need_one_of := _
    F_need_one_of := fun_mk (st := s_need_one_of) l4 c4 k4
    b_need_one_of := ((fun_mk (st := s_need_one_of) l4 c4 k4).binds (ps := ["members", "value"]) fun _ _ _ _ _ _ us hl => match us, hl with | [_, _], _ => rfl)
    g_need_one_of := PySem.W.mg_of X G a4
    f_Auditor_init := f_Auditor_init
    fd_Auditor_init := _
    F_Auditor_init := fun_mk (st := s_Auditor_init) l5 c5 k5
    b_Auditor_init := ((fun_mk (st := s_Auditor_init) l5 c5 k5).binds (ps := ["self", "members", "first"]) fun _ _ _ _ _ _ us hl => match us, hl with | [_, _, _], _ => rfl)
    f_Auditor_ring_by := f_Auditor_ring_by
    fd_Auditor_ring_by := _
    F_Auditor_ring_by := fun_mk (st := s_Auditor_ring_by) l6 c6 k6
    b_Auditor_ring_by := ((fun_mk (st := s_Auditor_ring_by) l6 c6 k6).binds (ps := ["self", "member", "giver"]) fun _ _ _ _ _ _ us hl => match us, hl with | [_, _, _], _ => rfl)
    f_Auditor_receive := f_Auditor_receive
    fd_Auditor_receive := _
    F_Auditor_receive := fun_mk (st := s_Auditor_receive) l7 c7 k7
    b_Auditor_receive := ((fun_mk (st := s_Auditor_receive) l7 c7 k7).binds (ps := ["self", "member", "giver"]) fun _ _ _ _ _ _ us hl => match us, hl with | [_, _, _], _ => rfl)
    f_Auditor_received_lists := f_Auditor_received_lists
    fd_Auditor_received_lists := _
    F_Auditor_received_lists := fun_mk (st := s_Auditor_received_lists) l8 c8 k8
    b_Auditor_received_lists := ((fun_mk (st := s_Auditor_received_lists) l8 c8 k8).binds (ps := ["self"]) fun _ _ _ _ _ _ us hl => match us, hl with | [_], _ => rfl)
    f_Group_init := f_Group_init
    fd_Group_init := _
    F_Group_init := fun_mk (st := s_Group_init) l9 c9 k9
    b_Group_init := ((fun_mk (st := s_Group_init) l9 c9 k9).binds (ps := ["self", "members", "first"]) fun _ _ _ _ _ _ us hl => match us, hl with | [_, _, _], _ => rfl)
    f_Group_hand_to := f_Group_hand_to
    fd_Group_hand_to := _
    F_Group_hand_to := fun_mk (st := s_Group_hand_to) l10 c10 k10
    b_Group_hand_to := ((fun_mk (st := s_Group_hand_to) l10 c10 k10).binds (ps := ["self", "member"]) fun _ _ _ _ _ _ us hl => match us, hl with | [_, _], _ => rfl)
    f_Group_holder_now := f_Group_holder_now
    fd_Group_holder_now := _
    F_Group_holder_now := fun_mk (st := s_Group_holder_now) l11 c11 k11
    b_Group_holder_now := ((fun_mk (st := s_Group_holder_now) l11 c11 k11).binds (ps := ["self"]) fun _ _ _ _ _ _ us hl => match us, hl with | [_], _ => rfl)
    f_Group_history_so_far := f_Group_history_so_far
    fd_Group_history_so_far := _
    F_Group_history_so_far := fun_mk (st := s_Group_history_so_far) l12 c12 k12
    b_Group_history_so_far := ((fun_mk (st := s_Group_history_so_far) l12 c12 k12).binds (ps := ["self"]) fun _ _ _ _ _ _ us hl => match us, hl with | [_], _ => rfl)
    f_Group_lists_so_far := f_Group_lists_so_far
    fd_Group_lists_so_far := _
    F_Group_lists_so_far := fun_mk (st := s_Group_lists_so_far) l13 c13 k13
    b_Group_lists_so_far := ((fun_mk (st := s_Group_lists_so_far) l13 c13 k13).binds (ps := ["self"]) fun _ _ _ _ _ _ us hl => match us, hl with | [_], _ => rfl)
    f_Group_waiting := f_Group_waiting
    fd_Group_waiting := _
    F_Group_waiting := fun_mk (st := s_Group_waiting) l14 c14 k14
    b_Group_waiting := ((fun_mk (st := s_Group_waiting) l14 c14 k14).binds (ps := ["self", "member"]) fun _ _ _ _ _ _ us hl => match us, hl with | [_, _], _ => rfl)
    f_Group_deliver_from := f_Group_deliver_from
    fd_Group_deliver_from := _
    F_Group_deliver_from := fun_mk (st := s_Group_deliver_from) l15 c15 k15
    b_Group_deliver_from := ((fun_mk (st := s_Group_deliver_from) l15 c15 k15).binds (ps := ["self", "member"]) fun _ _ _ _ _ _ us hl => match us, hl with | [_, _], _ => rfl)
    f_Group_deliver_all := f_Group_deliver_all
    fd_Group_deliver_all := _
    F_Group_deliver_all := fun_mk (st := s_Group_deliver_all) l16 c16 k16
    b_Group_deliver_all := ((fun_mk (st := s_Group_deliver_all) l16 c16 k16).binds (ps := ["self"]) fun _ _ _ _ _ _ us hl => match us, hl with | [_], _ => rfl)
    f_Group_reports_in_transit := f_Group_reports_in_transit
    fd_Group_reports_in_transit := _
    F_Group_reports_in_transit := fun_mk (st := s_Group_reports_in_transit) l17 c17 k17
    b_Group_reports_in_transit := ((fun_mk (st := s_Group_reports_in_transit) l17 c17 k17).binds (ps := ["self"]) fun _ _ _ _ _ _ us hl => match us, hl with | [_], _ => rfl)
    f_Group_known_so_far := f_Group_known_so_far
    fd_Group_known_so_far := _
    F_Group_known_so_far := fun_mk (st := s_Group_known_so_far) l18 c18 k18
    b_Group_known_so_far := ((fun_mk (st := s_Group_known_so_far) l18 c18 k18).binds (ps := ["self"]) fun _ _ _ _ _ _ us hl => match us, hl with | [_], _ => rfl)
    f_l_bag := f_l_bag
    fd_l_bag := _
    F_l_bag := fun_mk (st := s_l_bag) l19 c19 k19
    b_l_bag := ((fun_mk (st := s_l_bag) l19 c19 k19).binds (ps := ["_law_script", "_law_k"]) fun _ _ _ _ _ _ us hl => match us, hl with | [_, _], _ => rfl)
    g_l_bag := PySem.W.mg_of X G a19
    f_l_take := f_l_take
    fd_l_take := _
    F_l_take := fun_mk (st := s_l_take) l20 c20 k20
    b_l_take := ((fun_mk (st := s_l_take) l20 c20 k20).binds (ps := ["_law_bag_here", "_law_many"]) fun _ _ _ _ _ _ us hl => match us, hl with | [_, _], _ => rfl)
    g_l_take := PySem.W.mg_of X G a20
    f_l_pick := f_l_pick
    fd_l_pick := _
    F_l_pick := fun_mk (st := s_l_pick) l21 c21 k21
    b_l_pick := ((fun_mk (st := s_l_pick) l21 c21 k21).binds (ps := ["_law_bag_here", "_law_values"]) fun _ _ _ _ _ _ us hl => match us, hl with | [_, _], _ => rfl)
    g_l_pick := PySem.W.mg_of X G a21
    f_l_members := f_l_members
    fd_l_members := _
    F_l_members := fun_mk (st := s_l_members) l22 c22 k22
    b_l_members := ((fun_mk (st := s_l_members) l22 c22 k22).binds (ps := ["_law_bag_here", "_law_least", "_law_most"]) fun _ _ _ _ _ _ us hl => match us, hl with | [_, _, _], _ => rfl)
    g_l_members := PySem.W.mg_of X G a22
    f_l_walk := f_l_walk
    fd_l_walk := _
    F_l_walk := fun_mk (st := s_l_walk) l23 c23 k23
    b_l_walk := ((fun_mk (st := s_l_walk) l23 c23 k23).binds (ps := ["_law_bag_here", "_law_members_here", "_law_history", "_law_many", "_law_style"]) fun _ _ _ _ _ _ us hl => match us, hl with | [_, _, _, _, _], _ => rfl)
    g_l_walk := PySem.W.mg_of X G a23
    f_l_lists := f_l_lists
    fd_l_lists := _
    F_l_lists := fun_mk (st := s_l_lists) l24 c24 k24
    b_l_lists := ((fun_mk (st := s_l_lists) l24 c24 k24).binds (ps := ["_law_members_here", "_law_history"]) fun _ _ _ _ _ _ us hl => match us, hl with | [_, _], _ => rfl)
    g_l_lists := PySem.W.mg_of X G a24
    f_l_equal := f_l_equal
    fd_l_equal := _
    F_l_equal := fun_mk (st := s_l_equal) l25 c25 k25
    b_l_equal := ((fun_mk (st := s_l_equal) l25 c25 k25).binds (ps := ["_law_members_here", "_law_group", "_law_history", "_law_known"]) fun _ _ _ _ _ _ us hl => match us, hl with | [_, _, _, _], _ => rfl)
    g_l_equal := PySem.W.mg_of X G a25
    f_l_call_right := f_l_call_right
    fd_l_call_right := _
    F_l_call_right := fun_mk (st := s_l_call_right) l26 c26 k26
    b_l_call_right := ((fun_mk (st := s_l_call_right) l26 c26 k26).binds (ps := ["_law_bag_here", "_law_members_here", "_law_group", "_law_history", "_law_known", "_law_style"]) fun _ _ _ _ _ _ us hl => match us, hl with | [_, _, _, _, _, _], _ => rfl)
    g_l_call_right := PySem.W.mg_of X G a26
    f_law := fa
    fd_law := _
    F_law := fun_mk (st := s_law) l27 c27 k27
    b_law := ((fun_mk (st := s_law) l27 c27 k27).binds (ps := ["_law_script"]) fun _ _ _ _ _ _ us hl => match us, hl with | [_], _ => rfl)
    g_law := PySem.W.mg_of X G a27
    C_Auditor := C_Auditor
    cl_Auditor := ⟨pg_Auditor, hd_Auditor, po_Auditor, sa_Auditor⟩
    g_Auditor := PySem.W.mg_of X G aC_Auditor
    n_Auditor_members := na_Auditor_members
    n_Auditor_first := na_Auditor_first
    n_Auditor_known := na_Auditor_known
    n_Auditor_received := na_Auditor_received
    mk_Auditor := ⟨mk_Auditor, a5, i5, kc_Auditor⟩
    m_Auditor_ring_by := ⟨a6, i6, k6⟩
    m_Auditor_receive := ⟨a7, i7, k7⟩
    m_Auditor_received_lists := ⟨a8, i8, k8⟩
    C_Group := C_Group
    cl_Group := ⟨pg_Group, hd_Group, po_Group, sa_Group⟩
    g_Group := PySem.W.mg_of X G aC_Group
    n_Group_auditor := na_Group_auditor
    n_Group_members := na_Group_members
    n_Group_holders := na_Group_holders
    n_Group_lists := na_Group_lists
    mk_Group := ⟨mk_Group, a9, i9, kc_Group⟩
    m_Group_hand_to := ⟨a10, i10, k10⟩
    m_Group_holder_now := ⟨a11, i11, k11⟩
    m_Group_history_so_far := ⟨a12, i12, k12⟩
    m_Group_lists_so_far := ⟨a13, i13, k13⟩
    m_Group_waiting := ⟨a14, i14, k14⟩
    m_Group_deliver_from := ⟨a15, i15, k15⟩
    m_Group_deliver_all := ⟨a16, i16, k16⟩
    m_Group_reports_in_transit := ⟨a17, i17, k17⟩
    m_Group_known_so_far := ⟨a18, i18, k18⟩
    t_LETTERS := t_LETTERS
    g_LETTERS := PySem.W.mg_of X G co_LETTERS
    t_MAX_LETTERS := t_MAX_LETTERS
    g_MAX_LETTERS := PySem.W.mg_of X G co_MAX_LETTERS
    t_MAX_MEMBERS := t_MAX_MEMBERS
    g_MAX_MEMBERS := PySem.W.mg_of X G co_MAX_MEMBERS
    z_all := PySem.W.mg_none_of X G z_all
    z_dict := PySem.W.mg_none_of X G z_dict
    z_int := PySem.W.mg_none_of X G z_int
    z_isinstance := PySem.W.mg_none_of X G z_isinstance
    z_len := PySem.W.mg_none_of X G z_len
    z_list := PySem.W.mg_none_of X G z_list
    z_max := PySem.W.mg_none_of X G z_max
    z_min := PySem.W.mg_none_of X G z_min
    z_range := PySem.W.mg_none_of X G z_range
    z_sorted := PySem.W.mg_none_of X G z_sorted
    z_str := PySem.W.mg_none_of X G z_str
    z_sum := PySem.W.mg_none_of X G z_sum
    z_zip := PySem.W.mg_none_of X G z_zip }
  exact ⟨T.fd_law, fun s v => .of_eq rfl, fun base hb hn => ok_law T⟩
end K44
open PySem PySem.W PyProof.Rows
set_option maxHeartbeats 0 in
theorem PySem.Challenge.cw_gotfrom_k44_groups_led_holds : PySem.Challenge.rw_gotfrom_k44_groups_led.Holds := by
  w_on; o_law; k_head; (case hw => w_witness2)
  k_fill
  refine L2.walk_of (l := PySem.Challenge.rw_gotfrom_k44_groups_led) (n := 63) (k := 8) (x := "_law_script") (CX := fun _ => L2.CX0) (sp := fun w => K44.spLaw _) rfl (by decide) rfl ⟨rfl, by decide, by decide⟩ (fun w h Y => PySem.W.kIn_of Y) ?F (fun _ _ a ns hl _ hS => ⟨a, ns, rfl, hS, hl, fun _ => rfl⟩) (fun _ _ _ _ _ h => h)
  case F =>
    intro w mg fa h KX G hmg
    refine' K44.all_mk KX G hmg ?a1 ?l1 ?c1 ?k1 ?a2 ?l2 ?c2 ?k2 ?a3 ?l3 ?c3 ?k3 ?a4 ?l4 ?c4 ?k4 ?a5 ?i5 ?l5 ?c5 ?k5 ?a6 ?i6 ?l6 ?c6 ?k6 ?a7 ?i7 ?l7 ?c7 ?k7 ?a8 ?i8 ?l8 ?c8 ?k8 ?a9 ?i9 ?l9 ?c9 ?k9 ?a10 ?i10 ?l10 ?c10 ?k10 ?a11 ?i11 ?l11 ?c11 ?k11 ?a12 ?i12 ?l12 ?c12 ?k12 ?a13 ?i13 ?l13 ?c13 ?k13 ?a14 ?i14 ?l14 ?c14 ?k14 ?a15 ?i15 ?l15 ?c15 ?k15 ?a16 ?i16 ?l16 ?c16 ?k16 ?a17 ?i17 ?l17 ?c17 ?k17 ?a18 ?i18 ?l18 ?c18 ?k18 ?a19 ?l19 ?c19 ?k19 ?a20 ?l20 ?c20 ?k20 ?a21 ?l21 ?c21 ?k21 ?a22 ?l22 ?c22 ?k22 ?a23 ?l23 ?c23 ?k23 ?a24 ?l24 ?c24 ?k24 ?a25 ?l25 ?c25 ?k25 ?a26 ?l26 ?c26 ?k26 ?a27 ?l27 ?c27 ?k27 ?pg_Auditor ?hd_Auditor ?po_Auditor ?sa_Auditor ?mk_Auditor ?kc_Auditor ?aC_Auditor ?na_Auditor_members ?na_Auditor_first ?na_Auditor_known ?na_Auditor_received ?pg_Group ?hd_Group ?po_Group ?sa_Group ?mk_Group ?kc_Group ?aC_Group ?na_Group_auditor ?na_Group_members ?na_Group_holders ?na_Group_lists ?co_LETTERS ?co_MAX_LETTERS ?co_MAX_MEMBERS ?z_all ?z_dict ?z_int ?z_isinstance ?z_len ?z_list ?z_max ?z_min ?z_range ?z_sorted ?z_str ?z_sum ?z_zip
    (case aC_Auditor => k_is)
    (case aC_Group => k_is)
    (case a1 => k_is)
    (case l1 => k_is)
    (case c1 => k_is)
    (case k1 => k_is)
    (case a2 => k_is)
    (case l2 => k_is)
    (case c2 => k_is)
    (case k2 => k_is)
    (case a3 => k_is)
    (case l3 => k_is)
    (case c3 => k_is)
    (case k3 => k_is)
    (case a4 => k_is)
    (case l4 => k_is)
    (case c4 => k_is)
    (case k4 => k_is)
    (case a5 => k_is)
    (case i5 => k_is)
    (case l5 => k_is)
    (case c5 => k_is)
    (case k5 => k_is)
    (case a6 => k_is)
    (case i6 => k_is)
    (case l6 => k_is)
    (case c6 => k_is)
    (case k6 => k_is)
    (case a7 => k_is)
    (case i7 => k_is)
    (case l7 => k_is)
    (case c7 => k_is)
    (case k7 => k_is)
    (case a8 => k_is)
    (case i8 => k_is)
    (case l8 => k_is)
    (case c8 => k_is)
    (case k8 => k_is)
    (case a9 => k_is)
    (case i9 => k_is)
    (case l9 => k_is)
    (case c9 => k_is)
    (case k9 => k_is)
    (case a10 => k_is)
    (case i10 => k_is)
    (case l10 => k_is)
    (case c10 => k_is)
    (case k10 => k_is)
    (case a11 => k_is)
    (case i11 => k_is)
    (case l11 => k_is)
    (case c11 => k_is)
    (case k11 => k_is)
    (case a12 => k_is)
    (case i12 => k_is)
    (case l12 => k_is)
    (case c12 => k_is)
    (case k12 => k_is)
    (case a13 => k_is)
    (case i13 => k_is)
    (case l13 => k_is)
    (case c13 => k_is)
    (case k13 => k_is)
    (case a14 => k_is)
    (case i14 => k_is)
    (case l14 => k_is)
    (case c14 => k_is)
    (case k14 => k_is)
    (case a15 => k_is)
    (case i15 => k_is)
    (case l15 => k_is)
    (case c15 => k_is)
    (case k15 => k_is)
    (case a16 => k_is)
    (case i16 => k_is)
    (case l16 => k_is)
    (case c16 => k_is)
    (case k16 => k_is)
    (case a17 => k_is)
    (case i17 => k_is)
    (case l17 => k_is)
    (case c17 => k_is)
    (case k17 => k_is)
    (case a18 => k_is)
    (case i18 => k_is)
    (case l18 => k_is)
    (case c18 => k_is)
    (case k18 => k_is)
    (case a19 => k_is)
    (case l19 => k_is)
    (case c19 => k_is)
    (case k19 => k_is)
    (case a20 => k_is)
    (case l20 => k_is)
    (case c20 => k_is)
    (case k20 => k_is)
    (case a21 => k_is)
    (case l21 => k_is)
    (case c21 => k_is)
    (case k21 => k_is)
    (case a22 => k_is)
    (case l22 => k_is)
    (case c22 => k_is)
    (case k22 => k_is)
    (case a23 => k_is)
    (case l23 => k_is)
    (case c23 => k_is)
    (case k23 => k_is)
    (case a24 => k_is)
    (case l24 => k_is)
    (case c24 => k_is)
    (case k24 => k_is)
    (case a25 => k_is)
    (case l25 => k_is)
    (case c25 => k_is)
    (case k25 => k_is)
    (case a26 => k_is)
    (case l26 => k_is)
    (case c26 => k_is)
    (case k26 => k_is)
    (case a27 => k_is)
    (case l27 => k_is)
    (case c27 => k_is)
    (case k27 => k_is)
    (case pg_Auditor => k_is)
    (case hd_Auditor => k_is)
    (case po_Auditor => k_is)
    (case sa_Auditor => k_is)
    (case mk_Auditor => k_is)
    (case kc_Auditor => k_is)
    (case na_Auditor_members => k_is)
    (case na_Auditor_first => k_is)
    (case na_Auditor_known => k_is)
    (case na_Auditor_received => k_is)
    (case pg_Group => k_is)
    (case hd_Group => k_is)
    (case po_Group => k_is)
    (case sa_Group => k_is)
    (case mk_Group => k_is)
    (case kc_Group => k_is)
    (case na_Group_auditor => k_is)
    (case na_Group_members => k_is)
    (case na_Group_holders => k_is)
    (case na_Group_lists => k_is)
    (case co_LETTERS => k_is)
    (case co_MAX_LETTERS => k_is)
    (case co_MAX_MEMBERS => k_is)
    (case z_all => k_is)
    (case z_dict => k_is)
    (case z_int => k_is)
    (case z_isinstance => k_is)
    (case z_len => k_is)
    (case z_list => k_is)
    (case z_max => k_is)
    (case z_min => k_is)
    (case z_range => k_is)
    (case z_sorted => k_is)
    (case z_str => k_is)
    (case z_sum => k_is)
    (case z_zip => k_is)
#print axioms PySem.Challenge.cw_gotfrom_k44_groups_led_holds
