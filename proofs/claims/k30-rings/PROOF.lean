import PyProof.Rows.All
import Wide.All
import OpenK.AllK
import Wide.FinOn
import HandS.ForMost
import HandS.DictComp
import HandS.DeepEq
import HandS.IsInst
import HandS.Wide
import HandS.Walk
import HandS.Flow
import HandS.Finally
import PySem.Challenge.RW_gotfrom_k30_rings_of_known_lists
set_option Elab.async false
set_option linter.all false
set_option maxRecDepth 100000
set_option maxHeartbeats 4000000
namespace GF
open PySem PySem.Spec PyProof.Rows L2
/-! ### heaps -/
/-- all but the addresses in W is as it was -/
def Keep (W : List Addr) (H H' : Hp) : Prop := ∀ b o, H b = some o → b ∉ W → H' b = some o
theorem Keep.of_same {W : List Addr} {H H' : Hp} (s : Same H H') : Keep W H H' := fun b o e _ => s b o e
theorem Keep.same {H H' : Hp} (s : Keep [] H H') : Same H H' := fun b o e => s b o e (by simp)
theorem Keep.refl {W : List Addr} (H : Hp) : Keep W H H := fun _ _ e _ => e
theorem Keep.trans {W : List Addr} {H H1 H2 : Hp} (a : Keep W H H1) (b : Keep W H1 H2) : Keep W H H2 := fun c o h n => b c o (a c o h n) n
theorem Keep.mono {W W' : List Addr} {H H' : Hp} (a : Keep W H H') (h : ∀ b, b ∈ W → b ∈ W') : Keep W' H H' := fun c o e n => a c o e fun m => n (h c m)
theorem Keep.at {W : List Addr} {H H' : Hp} {a : Addr} {o : HO} (k : Keep W H H') (n : a ∉ W) (e : H a = some o) : H' a = some o := k a o e n
theorem Keep.seq {K : PySem.W.Frag} {W : List Addr} {H H' : Hp} {a : Addr} {xs : List V} (e : Keep W H H') (n : a ∉ W) (h : SqL K H a xs) : SqL K H' a xs := by
  rcases h with (h | ⟨o, h⟩) | h
  · exact .inl (.inl (e _ _ h n))
  · exact .inl (.inr ⟨o, e _ _ h n⟩)
  · exact .inr h
theorem keep_upd {W : List Addr} {H : Hp} {p : Addr} {o : HO} (h : p ∈ W) : Keep W H (upd H p o) := fun b u e n => by
  rw [upd_ne (by rintro rfl; exact n h)]
  exact e
theorem keep_new {W : List Addr} {H : Hp} {p : Addr} {o : HO} (h : H p = none) : Keep W H (upd H p o) := fun b u e n => by
  rw [upd_ne (ne_of_none e h)]
  exact e
theorem same_new {H : Hp} {p : Addr} {o : HO} (h : H p = none) : Same H (upd H p o) := fun b u e => by
  rw [upd_ne (ne_of_none e h)]
  exact e
/-- a change at an address that was not there before -/
theorem same_mut {H H' : Hp} {p : Addr} {o : HO} (s : Same H H') (h : H p = none) : Same H (upd H' p o) := fun b u e => by
  rw [upd_ne (ne_of_none e h)]
  exact s b u e
theorem Keep.free {W : List Addr} {H H' : Hp} (e : Keep W H H') {l : Addr} (h : H' l = none) (n : l ∉ W) : H l = none := by
  cases q : H l with
  | none => rfl
  | some o =>
    rw [e l o q n] at h
    cases h
theorem sqL {K : PySem.W.Frag} {H : Hp} {a : Addr} {xs : List V} (h : H a = some (.lst xs)) : SqL K H a xs := .inl (.inl h)
theorem sqT {K : PySem.W.Frag} {H : Hp} {a : Addr} {xs : List V} (h : H a = some (.tup xs)) : SqT K H a xs := .inl (.inl h)
theorem sz {n : Nat} (h : n ≤ 100000) : n < sizeLine := Nat.lt_of_le_of_lt h (by decide)
theorem szl {n : Nat} (h : n ≤ 100000) : n ≤ sizeLine := Nat.le_of_lt (sz h)
/-! ### names -/
abbrev sv (l : List Str) : List V := l.map V.str
theorem sv_inj {a b : List Str} (h : sv a = sv b) : a = b := by
  induction a generalizing b with
  | nil =>
    cases b with
    | nil => rfl
    | cons y r => cases h
  | cons x r ih =>
    cases b with
    | nil => cases h
    | cons y s =>
      injection h with h1 h2
      injection h1 with h1
      rw [h1, ih h2]
theorem flat_sv (l : List Str) : (sv l).all flatV = true := List.all_eq_true.mpr fun x hx => by
  obtain ⟨y, _, rfl⟩ := List.mem_map.mp hx
  rfl
theorem eqV_str (x y : Str) : eqV (.str x) (.str y) = decide (x = y) := by
  by_cases h : x = y
  · subst h; simp [eqV]
  · simp [eqV, h]
theorem inV_sv (x : Str) (l : List Str) : inV (.str x) (sv l) = decide (x ∈ l) := by
  induction l with
  | nil => rfl
  | cons y r ih =>
    show (eqV (.str y) (.str x) || inV (.str x) (sv r)) = _
    rw [ih, eqV_str]
    by_cases h : y = x
    · subst h; simp
    · by_cases h2 : x ∈ r
      · simp [h2]
      · simp [h, h2, Ne.symm h]
theorem sv_get {l : List Str} {i : Nat} {x : Str} (h : l[i]? = some x) : (sv l)[i]? = some (.str x) := by
  rw [List.getElem?_map, h]
  rfl
theorem sv_get' {l : List Str} {i : Nat} {v : V} (h : (sv l)[i]? = some v) : ∃ x, l[i]? = some x ∧ v = .str x := by
  rw [List.getElem?_map] at h
  cases e : l[i]? with
  | none => rw [e] at h; cases h
  | some x => rw [e] at h; exact ⟨x, rfl, (Option.some.inj h).symm⟩
/-! ### data -/
theorem dp_sv {K : PySem.W.Frag} {H : Hp} (l : List Str) : DpAll K H (sv l) (l.map PyData.str) := by
  induction l with
  | nil => exact .nil
  | cons x r ih => exact .cons (.str x) ih
theorem dp_strs {K : PySem.W.Frag} {H : Hp} {a : Addr} {l : List Str} (h : SqL K H a (sv l)) : Dp K H (.ref a) (.list (l.map PyData.str)) := .lst h (dp_sv l)
theorem eqvAll_strs (a b : List Str) : PyData.eqvAll (a.map PyData.str) (b.map PyData.str) = decide (a = b) := by
  induction a generalizing b with
  | nil =>
    cases b with
    | nil => rfl
    | cons y r => rfl
  | cons x r ih =>
    cases b with
    | nil => rfl
    | cons y s =>
      show ((x == y) && PyData.eqvAll (r.map PyData.str) (s.map PyData.str)) = _
      rw [ih]
      by_cases h : x = y
      · subst h
        by_cases h2 : r = s
        · subst h2; simp
        · simp [h2]
      · simp [h]
theorem eqv_strs (a b : List Str) : PyData.eqv (.list (a.map PyData.str)) (.list (b.map PyData.str)) = decide (a = b) := eqvAll_strs a b
theorem canLay_strs {a : List Str} (h : ∀ x ∈ a, PyData.strOk x = true) : PyData.canLayAll0 (a.map PyData.str) = true := by
  induction a with
  | nil => rfl
  | cons x r ih =>
    have h1 := ih fun y hy => h y (List.mem_cons_of_mem _ hy)
    simp [PyData.canLayAll0, PyData.canLay0, h x List.mem_cons_self, h1]
theorem depth_strs (a : List Str) : PyData.depthAll (a.map PyData.str) ≤ 1 := by
  induction a with
  | nil => simp [PyData.depthAll]
  | cons x r ih => simpa [PyData.depthAll, PyData.depth] using ih
theorem shaped_strs {a : List Str} (h : ∀ x ∈ a, PyData.strOk x = true) : SeqAt.shaped (.list (a.map PyData.str)) = true := by
  have h1 : PyData.canLay0 (.list (a.map PyData.str)) = true := by simpa [PyData.canLay0] using canLay_strs h
  have h2 : PyData.depth (.list (a.map PyData.str)) ≤ 64 := by
    have := depth_strs a
    simp only [PyData.depth]; omega
  unfold SeqAt.shaped
  rw [h1]
  simp [h2]
/-! ### rules that the layer lacks -/
section
variable {J : It} {n : Nat} {G : Hp → Prop} {Y : Nat → Hp → V → Hp → Prop}
/-- a dict comprehension over any walk -/
theorem dc_it (w : Walk J n G Y) {g : TG} {tt : TT} {tk tv : TE} {vs : List Nat} {σ : L2.St} {H1 : Hp} {D : Addr} {Qd : Hp → Prop} (Pv : Nat → Hp → Prop) (h0 : Pv 0 (upd H1 D (.dK [])))
    (hG : ∀ i H, i ≤ n → Pv i H → G H)
    (hs : ∀ i x H H', i < n → Pv i H → Y i H x H' → g x (wipe σ vs) H' fun σ2 H2 => wipe σ2 vs = wipe σ vs ∧
      tt σ2 H2 fun b H3 => if b = true then tk σ2 H3 fun y H4 => tv σ2 H4 fun z H5 =>
        ∃ kvs k, y = kV k ∧ H5 D = some (.dK kvs) ∧ kvs.length < sizeLine ∧ Pv (i + 1) (upd H5 D (.dK (putK kvs k z)))
      else Pv (i + 1) H3)
    (hd : ∀ H, Pv n H → Qd H) :
    ∃ W : Nat → Nat → Hp → Prop, (∃ m, W 0 m (upd H1 D (.dK []))) ∧ ∀ i m H, W i m H →
      (J.stop i H ∧ Qd H) ∨ (J.go i H ∧ ∃ Nx : Hp → Prop, (∀ H', Nx H' → ∃ m', m' < m ∧ W (i + 1) m' H') ∧
        ∀ x H', J.yld i H x H' → g x (wipe σ vs) H' fun σ2 H2 => wipe σ2 vs = wipe σ vs ∧
          tt σ2 H2 fun b H3 => if b = true then tk σ2 H3 fun y H4 => tv σ2 H4 fun z H5 =>
            ∃ kvs k, y = kV k ∧ H5 D = some (.dK kvs) ∧ kvs.length < sizeLine ∧ Nx (upd H5 D (.dK (putK kvs k z)))
          else Nx H3) :=
  ⟨fun i m H => m + i = n ∧ Pv i H, ⟨n, Nat.add_zero n, h0⟩, fun i m H ⟨e, p⟩ => by
    have q := hG i H (by omega) p
    rcases Nat.lt_or_ge i n with h | h
    · exact .inr ⟨w.goes i H h q, Pv (i + 1), fun H' p' => ⟨n - (i + 1), by omega, by omega, p'⟩, fun x H' y => hs i x H H' h p (w.yields i H x H' h q y)⟩
    · have e' : i = n := by omega
      subst e'
      exact .inl ⟨w.stops H q, hd H p⟩⟩
end
/-- a list of names, walked -/
theorem walk_sv {K : PySem.W.Frag} {a : Addr} (ms : List Str) : Walk (Itl K a) ms.length (fun H => SqL K H a (sv ms)) (fun i H x H' => H' = H ∧ ∃ m, ms[i]? = some m ∧ x = .str m) := by
  have h := walk_list (K := K) (a := a) (xs := sv ms)
  rw [List.length_map] at h
  exact h.mono (fun _ q => q) fun i H x H' _ _ y => ⟨y.1, sv_get' y.2⟩
def rListOf (K : PySem.W.Frag) : List V → Hp → VK → Prop := fun xs H Q => ∃ p ys, xs = [.ref p] ∧
  (SqL K H p ys ∨ SqT K H p ys) ∧ ∀ l, H l = none → Q (.ref l) (upd H l (.lst ys))
theorem call_listK {X : Cx} : CallR X (.type "list") (rListOf X.K) := call_list_of
def rLenOf (K : PySem.W.Frag) : List V → Hp → VK → Prop := fun xs H Q => ∃ p ys, xs = [.ref p] ∧ (SqL K H p ys ∨ SqT K H p ys) ∧
  Q (.int ys.length) H
theorem call_lenK {X : Cx} : CallR X (.builtin "len") (rLenOf X.K) := call_len_seq
/-- x != y, two dicts that are equal (values of any nesting) -/
def rNeDict (K : PySem.W.Frag) : R2 := fun x y H Q => ∃ a b ks ls, x = .ref a ∧ y = .ref b ∧ H a = some (.dK ks) ∧ H b = some (.dK ls) ∧ ks.length = ls.length ∧
  (∀ p ∈ ks, ∃ u, valV ls p.1 = some u ∧ EqV K H 60 p.2 u) ∧ Q (.bl false) H
theorem op_neDict {X : Cx} (hu : X.A.units + 64 < cLine) : OpR X (compareOp .NotEq) (rNeDict X.K) := by
  intro pins s σ H x y v u Q I rx ry h
  obtain ⟨a, b, ks, ls, rfl, rfl, ha, hb, hl, hp, q⟩ := h
  cases (show v = Value.ref a from rx); cases (show u = Value.ref b from ry)
  obtain ⟨_, ya, va, ra, da⟩ := I.hok a _ ha; obtain ⟨_, yb, vb, rb, db⟩ := I.hok b _ hb
  have e : (va.length == vb.length && true) = true := by rw [← ra.length, ← rb.length, hl]; simp
  refine wpAny_richCompare_same_room (op := .NotEq) da.typeIs db.typeIs PySem.F.slot_dict_ne (wpAny_call_entry PySem.F.slot_dict_ne da.typeIs PySem.F.entry_dict_ne ?_
    (PySem.F.args_dict_ne_2 _ _)) (show X.A.units < cLine by omega)
  show wpAny _ _ (Builtin.Dict.dictSlotArgs "__ne__" ⟨[.ref a, .ref b], []⟩ >>= _) _ _ s
  refine wpAny_bind ?_; unfold Builtin.Dict.dictSlotArgs
  refine wpAny_bind (wpAny_notOrdered_dict da.typeIs ?_); show wpAny _ _ (pure (Value.ref a, Value.ref b)) _ _ s
  refine wpAny_pure (wpAny_bind (wpAny_isInstance (T := "dict") db.typeIs PySem.F.sub_dict_dict ?_))
  simp only [Bool.not_true, Bool.false_eq_true, if_false]
  refine wpAny_bind (wpAny_pure (wpAny_bind (wpAny_pure (wpAny_bind (PySem.W.samePairsP (r := true) ya yb da db (fun _ =>
    hits_run (F := EqV X.K H 60) (fun x y v u h r1 r2 => eqV_run I 60 X.A.in1 (by show X.A.units + 1 + 60 < cLine; omega) x y v u h r1 r2) rb ra hp) ?_)))))
  rw [e]
  exact wpAny_pure ⟨_, rfl, (fun z => by cases z), ⟨.bl false, H, I, rfl, q⟩⟩
/-! ### a dict of lists of names -/
/-- pairs of a dict whose keys are ms, the value of m is v m -/
def mkd (ms : List Str) (v : Str → V) : List (Key × V) := ms.map fun m => (Sum.inr m, v m)
abbrev mkv (ms : List Str) (ad : Str → Addr) : List (Key × V) := mkd ms fun m => .ref (ad m)
theorem mkd_val {ms : List Str} {v : Str → V} {m : Str} (h : m ∈ ms) : valV (mkd ms v) (Sum.inr m : Key) = some (v m) := by
  induction ms with
  | nil => simp at h
  | cons x r ih =>
    by_cases e : x = m
    · subst e; exact valV_pos rfl
    · have e' : ¬ (Sum.inr x : Key) = Sum.inr m := fun z => e (Sum.inr.inj z)
      exact (valV_neg e').trans (ih ((List.mem_cons.mp h).resolve_left (Ne.symm e)))
theorem mkv_val {ms : List Str} {ad : Str → Addr} {m : Str} (h : m ∈ ms) : valV (mkv ms ad) (Sum.inr m : Key) = some (.ref (ad m)) := mkd_val h
theorem mkd_none {ms : List Str} {v : Str → V} {m : Str} (h : m ∉ ms) : valV (mkd ms v) (Sum.inr m : Key) = none := by
  induction ms with
  | nil => rfl
  | cons x r ih =>
    obtain ⟨h1, h2⟩ := not_or.mp (mt List.mem_cons.mpr h)
    have e' : ¬ (Sum.inr x : Key) = Sum.inr m := fun z => h1 (Sum.inr.inj z).symm
    exact (valV_neg e').trans (ih h2)
theorem mkd_len (ms : List Str) (v : Str → V) : (mkd ms v).length = ms.length := List.length_map _
theorem mkd_snoc {ms : List Str} {v v' : Str → V} {m : Str} {z : V} (h : m ∉ ms) (h1 : ∀ x ∈ ms, v' x = v x) (h2 : v' m = z) : putK (mkd ms v) (Sum.inr m) z = mkd (ms ++ [m]) v' := by
  rw [putK_new _ (mkd_none h)]
  unfold mkd
  rw [List.map_append]
  congr 1
  · exact List.map_congr_left fun x hx => by rw [h1 x hx]
  · simp [h2]
/-- two dicts of flat values -/
theorem mkd_eqs {K : PySem.W.Frag} {H : Hp} {ms : List Str} {v u : Str → V} (h : ∀ m ∈ ms, v m = u m) (hf : ∀ m ∈ ms, flatB (v m) = true) (n : Nat) : ∀ p ∈ mkd ms v, ∃ z, valV (mkd ms u) p.1 = some z ∧ EqV K H (n + 1) p.2 z := by
  intro p hp
  obtain ⟨m, hm, rfl⟩ := List.mem_map.mp hp
  exact ⟨u m, mkd_val hm, .inl ⟨h m hm, hf m hm⟩⟩
/-- at d a dict whose keys are ms, the value of m the list at ad m, which holds f m -/
structure DL (H : Hp) (d : Addr) (ms : List Str) (ad : Str → Addr) (f : Str → List Str) : Prop where
  dict : H d = some (.dK (mkv ms ad))
  at_ : ∀ m ∈ ms, H (ad m) = some (.lst (sv (f m)))
theorem DL.get {H : Hp} {d : Addr} {ms : List Str} {ad : Str → Addr} {f : Str → List Str} (h : DL H d ms ad f) {m : Str} (hm : m ∈ ms) : DGet H d (.str m) (some (.ref (ad m))) := by
  have := DGet.k (k := Sum.inr m) h.dict
  rw [mkv_val hm] at this
  exact this
theorem DL.keep {W : List Addr} {H H' : Hp} {d : Addr} {ms : List Str} {ad : Str → Addr} {f : Str → List Str} (h : DL H d ms ad f) (k : Keep W H H') (n : d ∉ W) (n2 : ∀ m ∈ ms, ad m ∉ W) : DL H' d ms ad f :=
  ⟨k _ _ h.dict n, fun m hm => k _ _ (h.at_ m hm) (n2 m hm)⟩
theorem DL.same {H H' : Hp} {d : Addr} {ms : List Str} {ad : Str → Addr} {f : Str → List Str} (h : DL H d ms ad f) (k : Same H H') : DL H' d ms ad f := ⟨k _ _ h.dict, fun m hm => k _ _ (h.at_ m hm)⟩
/-- one more member -/
def pad (ad : Str → Addr) (m : Str) (l : Addr) : Str → Addr := fun y => if y = m then l else ad y
theorem pad_same {ad : Str → Addr} {m : Str} {l : Addr} : pad ad m l m = l := if_pos rfl
theorem pad_ne {ad : Str → Addr} {m y : Str} {l : Addr} (h : y ≠ m) : pad ad m l y = ad y := if_neg h
/-- a dict of new lists: they stand apart and were not there in H0 -/
structure DN (H0 H : Hp) (d : Addr) (ms : List Str) (ad : Str → Addr) (f : Str → List Str) : Prop where
  dl : DL H d ms ad f
  d0 : H0 d = none
  new : ∀ m ∈ ms, H0 (ad m) = none
  inj : ∀ x ∈ ms, ∀ y ∈ ms, ad x = ad y → x = y
theorem DN.nil {H0 H : Hp} {d : Addr} {ad : Str → Addr} {f : Str → List Str} (h : H0 d = none) (e : H d = some (.dK [])) : DN H0 H d [] ad f := ⟨⟨e, fun _ z => by cases z⟩, h, fun _ z => (by cases z), fun _ z => (by cases z)⟩
theorem DN.snoc {H0 H H1 : Hp} {d l : Addr} {ms : List Str} {ad : Str → Addr} {f : Str → List Str} {m : Str} (h : DN H0 H d ms ad f) (s0 : Same H0 H) (hm : m ∉ ms) (s : Same H H1) (nl : H l = none) (el : H1 l = some (.lst (sv (f m)))) :
    DN H0 (L2.upd H1 d (.dK (putK (mkv ms ad) (Sum.inr m) (.ref l)))) d (ms ++ [m]) (pad ad m l) f := by
  have nld : l ≠ d := fun z => by subst z; rw [h.dl.dict] at nl; cases nl
  have ne : ∀ x ∈ ms, x ≠ m := fun x hx z => hm (z ▸ hx)
  have had : ∀ x ∈ ms, ad x ≠ l := fun x hx z => by rw [← z, h.dl.at_ x hx] at nl; cases nl
  have hdk : ∀ x ∈ ms, ad x ≠ d := fun x hx => ne_of (h.dl.at_ x hx) h.dl.dict (fun z => by cases z)
  refine ⟨⟨?_, fun x hx => ?_⟩, h.d0, fun x hx => ?_, fun x hx y hy e => ?_⟩
  · rw [upd_same, mkd_snoc (v' := fun y => .ref (pad ad m l y)) hm (fun x hx => by rw [pad_ne (ne x hx)]) (by rw [pad_same])]
  · rcases List.mem_append.mp hx with hx | hx
    · rw [pad_ne (ne x hx), upd_ne (hdk x hx)]
      exact s _ _ (h.dl.at_ x hx)
    · cases List.mem_singleton.mp hx
      rw [pad_same, upd_ne nld]
      exact el
  · rcases List.mem_append.mp hx with hx | hx
    · rw [pad_ne (ne x hx)]; exact h.new x hx
    · cases List.mem_singleton.mp hx
      rw [pad_same]; exact s0.free nl
  · rcases List.mem_append.mp hx with hx | hx <;> rcases List.mem_append.mp hy with hy | hy
    · rw [pad_ne (ne x hx), pad_ne (ne y hy)] at e; exact h.inj x hx y hy e
    · cases List.mem_singleton.mp hy
      rw [pad_ne (ne x hx), pad_same] at e; exact absurd e (had x hx)
    · cases List.mem_singleton.mp hx
      rw [pad_ne (ne y hy), pad_same] at e; exact absurd e.symm (had y hy)
    · rw [List.mem_singleton.mp hx, List.mem_singleton.mp hy]
theorem take_snoc {α : Type} {l : List α} {i : Nat} {x : α} (h : l[i]? = some x) : l.take (i + 1) = l.take i ++ [x] := by
  rw [List.take_add_one, h]; rfl
theorem not_take {l : List Str} {i : Nat} {x : Str} (nd : l.Nodup) (h : l[i]? = some x) : x ∉ l.take i := fun m => by
  obtain ⟨hi, ei⟩ := List.getElem?_eq_some_iff.mp h
  obtain ⟨j, hj, ej⟩ := List.getElem_of_mem m
  rw [List.getElem_take] at ej
  have hj' : j < i := by rw [List.length_take] at hj; omega
  have := (List.getElem_inj nd).mp (ej.trans ei.symm)
  omega
/-- f with x for m -/
def put (f : Str → List Str) (m : Str) (x : List Str) : Str → List Str := fun y => if y = m then x else f y
theorem put_same {f : Str → List Str} {m : Str} {x : List Str} : put f m x m = x := if_pos rfl
theorem put_ne {f : Str → List Str} {m y : Str} {x : List Str} (h : y ≠ m) : put f m x y = f y := if_neg h
/-- one list is changed -/
theorem DL.upd {H : Hp} {d : Addr} {ms : List Str} {ad : Str → Addr} {f : Str → List Str} (h : DL H d ms ad f) {m : Str} (hm : m ∈ ms) (inj : ∀ x ∈ ms, ∀ y ∈ ms, ad x = ad y → x = y) {x : List Str} : DL (upd H (ad m) (.lst (sv x))) d ms ad (put f m x) := by
  refine ⟨?_, fun y hy => ?_⟩
  · rw [upd_ne (ne_of h.dict (h.at_ m hm) (fun z => by cases z))]
    exact h.dict
  · by_cases e : y = m
    · subst e; rw [upd_same, put_same]
    · rw [upd_ne (fun z => e (inj y hy m hm z)), put_ne e]
      exact h.at_ y hy
theorem DL.congr {H : Hp} {d : Addr} {ms : List Str} {ad : Str → Addr} {f g : Str → List Str} (h : DL H d ms ad f) (e : ∀ m ∈ ms, f m = g m) : DL H d ms ad g := ⟨h.dict, fun m hm => by rw [← e m hm]; exact h.at_ m hm⟩
theorem DN.set {H0 H : Hp} {d : Addr} {ms : List Str} {ad : Str → Addr} {f : Str → List Str} (h : DN H0 H d ms ad f) {m : Str} (hm : m ∈ ms) {x : List Str} : DN H0 (L2.upd H (ad m) (.lst (sv x))) d ms ad (put f m x) :=
  ⟨h.dl.upd hm h.inj, h.d0, h.new, h.inj⟩
theorem DN.congr {H0 H : Hp} {d : Addr} {ms : List Str} {ad : Str → Addr} {f g : Str → List Str} (h : DN H0 H d ms ad f) (e : ∀ m ∈ ms, f m = g m) : DN H0 H d ms ad g := ⟨DL.congr h.dl e, h.d0, h.new, h.inj⟩
/-- equal dicts of lists -/
theorem DL.eqs {K : PySem.W.Frag} {H : Hp} {d e : Addr} {ms : List Str} {ad ae : Str → Addr} {f g : Str → List Str} (h : DL H d ms ad f) (k : DL H e ms ae g) (hf : ∀ m ∈ ms, f m = g m) (n : Nat) :
    ∀ p ∈ mkv ms ad, ∃ u, valV (mkv ms ae) p.1 = some u ∧ EqV K H (n + 2) p.2 u := by
  intro p hp
  obtain ⟨m, hm, rfl⟩ := List.mem_map.mp hp
  refine ⟨.ref (ae m), mkv_val hm, .inr (.inr (.inl ⟨ad m, ae m, sv (f m), sv (g m), rfl, rfl, sqL (h.at_ m hm), sqL (k.at_ m hm), ?_⟩))⟩
  rw [hf m hm]
  generalize g m = l
  induction l with
  | nil => exact .nil
  | cons x r ih => exact .cons (.inl ⟨rfl, rfl⟩) ih
/-! ### the givers of a history -/
/-- of whom m got the document -/
def givers (m : Str) : List Str → List Str
  | a :: b :: r => if b = m then a :: givers m (b :: r) else givers m (b :: r)
  | _ => []
theorem givers_snoc (m y x : Str) : ∀ h : List Str, givers m (h ++ [y, x]) = givers m (h ++ [y]) ++ (if x = m then [y] else [])
  | [] => by
    show (if x = m then [y] else []) = _
    split <;> rfl
  | [a] => by
    show (if y = m then a :: givers m [y, x] else givers m [y, x]) = (if y = m then [a] else []) ++ _
    rw [show givers m [y, x] = if x = m then [y] else [] from rfl]
    split <;> rfl
  | a :: b :: r => by
    have ih := givers_snoc m y x (b :: r)
    show (if b = m then a :: givers m (b :: r ++ [y, x]) else givers m (b :: r ++ [y, x])) = (if b = m then a :: givers m (b :: r ++ [y]) else givers m (b :: r ++ [y])) ++ _
    rw [ih]
    split <;> rfl
theorem givers_last {m x : Str} {h : List Str} (hn : h ≠ []) : givers m (h ++ [x]) = givers m h ++ (if x = m then [h.getLast hn] else []) := by
  have e := List.dropLast_concat_getLast hn
  generalize h.getLast hn = y at e ⊢
  generalize h.dropLast = p at e
  subst e
  rw [List.append_assoc]
  exact givers_snoc m y x p
theorem givers_mem {m g : Str} : ∀ {h : List Str}, g ∈ givers m h → g ∈ h
  | [], k => by simp [givers] at k
  | [_], k => by simp [givers] at k
  | a :: b :: r, k => by
    have k : g ∈ (if b = m then a :: givers m (b :: r) else givers m (b :: r)) := k
    by_cases e : b = m
    · rw [if_pos e] at k
      rcases List.mem_cons.mp k with z | z
      · exact z ▸ List.mem_cons_self
      · exact List.mem_cons_of_mem _ (givers_mem z)
    · rw [if_neg e] at k
      exact List.mem_cons_of_mem _ (givers_mem k)
theorem idx_self (a : Str) (r : List Str) : (a :: r).idxOf a = 0 := by simp
theorem idx_ne {a b : Str} (r : List Str) (h : b ≠ a) : (a :: r).idxOf b = r.idxOf b + 1 := by
  have e : (a == b) = false := by simp [Ne.symm h]
  rw [List.idxOf_cons, e]
  rfl
/-- the first entry of a member other than the first holder had the document before the member -/
theorem givers_head {m g : Str} {t : List Str} : ∀ {a : Str} {r : List Str}, m ≠ a → givers m (a :: r) = g :: t → (a :: r).idxOf g < (a :: r).idxOf m
  | a, [], _, k => by simp [givers] at k
  | a, b :: r, n, k => by
    have k : (if b = m then a :: givers m (b :: r) else givers m (b :: r)) = g :: t := k
    rw [idx_ne _ n]
    by_cases e : b = m
    · rw [if_pos e] at k
      injection k with k1 k2
      rw [k1, idx_self]
      exact Nat.succ_pos _
    · rw [if_neg e] at k
      have ih := givers_head (Ne.symm e) k
      by_cases e2 : g = a
      · rw [e2, idx_self]
        exact Nat.succ_pos _
      · rw [idx_ne _ e2]
        omega
theorem givers_len (m : Str) : ∀ h : List Str, (givers m h).length ≤ h.length
  | [] => Nat.zero_le _
  | [_] => Nat.zero_le _
  | a :: b :: r => by
    have ih := givers_len m (b :: r)
    show (if b = m then a :: givers m (b :: r) else givers m (b :: r)).length ≤ _
    split <;> simp only [List.length_cons] at ih ⊢ <;> omega
theorem sum_zero {ms : List Str} {f : Str → Nat} (h : ∀ m ∈ ms, f m = 0) : (ms.map f).sum = 0 := by
  induction ms with
  | nil => rfl
  | cons x r ih => simp [h x List.mem_cons_self, ih fun m hm => h m (List.mem_cons_of_mem _ hm)]
theorem sum_le {ms : List Str} {f g : Str → Nat} (h : ∀ m ∈ ms, f m ≤ g m) : (ms.map f).sum ≤ (ms.map g).sum := by
  induction ms with
  | nil => exact Nat.le_refl _
  | cons x r ih =>
    have h1 := h x List.mem_cons_self
    have h2 := ih fun m hm => h m (List.mem_cons_of_mem _ hm)
    simp only [List.map_cons, List.sum_cons]
    omega
theorem sum_eq {ms : List Str} {f g : Str → Nat} (h : ∀ m ∈ ms, f m = g m) : (ms.map f).sum = (ms.map g).sum := by
  rw [List.map_congr_left h]
theorem sum_one {ms : List Str} (nd : ms.Nodup) (b : Str) (c : Nat) : (ms.map fun m => if b = m then c else 0).sum ≤ c := by
  induction ms with
  | nil => exact Nat.zero_le _
  | cons x r ih =>
    obtain ⟨n1, n2⟩ := List.nodup_cons.mp nd
    simp only [List.map_cons, List.sum_cons]
    by_cases e : b = x
    · subst e
      rw [if_pos rfl, sum_zero (f := fun m => if b = m then c else 0) fun m hm => if_neg (by rintro rfl; exact n1 hm)]
      omega
    · rw [if_neg e]
      have := ih n2
      omega
theorem sum_add {ms : List Str} {f g : Str → Nat} : (ms.map fun m => f m + g m).sum = (ms.map f).sum + (ms.map g).sum := by
  induction ms with
  | nil => rfl
  | cons x r ih => simp only [List.map_cons, List.sum_cons, ih]; omega
/-- all entries together are not more than the holders -/
theorem givers_sum {ms : List Str} (nd : ms.Nodup) : ∀ h : List Str, (ms.map fun m => (givers m h).length).sum ≤ h.length
  | [] => by rw [sum_zero (f := fun m => (givers m []).length) fun _ _ => rfl]; exact Nat.zero_le _
  | [a] => by rw [sum_zero (f := fun m => (givers m [a]).length) fun _ _ => rfl]; exact Nat.zero_le _
  | a :: b :: r => by
    have ih := givers_sum nd (b :: r)
    have e : (ms.map fun m => (givers m (a :: b :: r)).length).sum = (ms.map fun m => (givers m (b :: r)).length + (if b = m then 1 else 0)).sum := sum_eq fun m _ => by
      show (if b = m then a :: givers m (b :: r) else givers m (b :: r)).length = _
      split <;> simp
    rw [e, sum_add]
    have := sum_one nd b 1
    simp only [List.length_cons] at ih ⊢
    omega
end GF
namespace GF
open PySem PySem.Spec PyProof.Rows L2
/-! ### promises of defs that are called while no repr runs: what repr gives is then known -/
structure FnG (P : Program) (w : World) (K : PySem.W.Frag) (mg : Str → Option Value) (base : Heap) (k : Nat) (f : Addr) (fd : FuncData) (ps : List Str) (sp : Sp) : Prop where
  len : ∀ vs H Q E, sp vs H Q E → vs.length = ps.length
  run : ∀ A : Around, A.guards = some [] → ∀ (outer : List Env) (s : Shared) (H : Hp) (g : Args) (us : List Value) (vs : List V) (Q : VK) (E : XK), Room k A → Env0 P w K mg base A outer s H →
    BindsTo s fd g (ps.zip us) → Vals vs us → sp vs H Q E → codeAny (model P w) A (.call (.ref f) g) (CR CX0 outer P w H s Q E) s
section
variable {P : Program} {w : World} {K : PySem.W.Frag} {mg : Str → Option Value} {base : Heap}
/-- a def by its body, read where no repr runs -/
theorem fun_okG {x qual : Str} {st : Stmt} {f : Addr} {fd : FuncData} {N ps : List Str} {k : Nat} {sp : Sp} (F : Fun K x qual st f fd) (S : FnScope N ps (defScope st)) (hl : ∀ vs H Q E, sp vs H Q E → vs.length = ps.length)
    (body : ∀ (cd : Value) (A : Around) (outer : List Env) (s : Shared) (H : Hp) (vs : List V) (Q : VK) (E : XK), A.guards = some [] → Room k (A.deeper (envOfC qual (defScope st) s.heap.objs.size f cd)) → sp vs H Q E →
      ∃ t, PSs (cxOf CX0 P w K mg base N qual (defScope st) f cd A outer s H E).nox (defBody st) t ∧ t { nx := fun _ H' => Q .non H', rt := Q } (start N vs) H) :
    FnG P w K mg base (k + 1) f fd ps sp := by
  obtain ⟨oc, od, kV, doc, pm, an, cd, ct, osl, rfl, lk, hcd⟩ := F.ex
  refine ⟨hl, fun A hg outer s H g us vs Q E hr e0 hb rv hs => ?_⟩
  have kin := e0.mod.kin.keeps (fun b o e => (e0.bs b o e).1)
  have nolim := e0.mod.nolimit.keeps (fun b o e => (e0.bs b o e).1)
  have places : ∀ y ∈ ps.zip us, (defScope st).names.lookup y.1 = some .local ∨
      ((defScope st).names.lookup y.1 = some .cell ∧ ((cellsFrom (s.heap.objs.size + 1) (defScope st).names []).lookup y.1).isSome = true) := by
    intro y hy
    obtain ⟨y1, y2⟩ := y
    exact (S.par y1 (List.of_mem_zip hy).1).imp id fun q => ⟨q, PySem.W.cellsFrom_some _ _ _ (.inl q)⟩
  refine codeAny_call_function hr.depth (kin _ _ lk) rfl S.co S.gen rfl (PySem.W.codeRec_of kin hcd) (hb _ _ _ _ (wpAny_newFunctionEnv_cells S.kind places ?_))
  rintro _ rfl s1 made
  obtain ⟨t, pt, q⟩ := body cd A outer s H vs Q E hg (hr.deeper _) hs
  have I := inv_start (CX := CX0) (E := E) S hr.hd e0 (hl _ _ _ _ hs) rv made
  refine ⟨nolim.keeps made.toInCall.keep, codeAny_func (wpAny_mono (pt.nox.run [] s1 (start N vs) H _ I q) ?_ fun _ _ z => z)⟩
  intro fl s' h
  match fl, h with
  | .ret _, ⟨v, _, H', J, r, z⟩ => exact ⟨v, H', J.os, J.bare, J.base, J.hok, r, z⟩
  | .next, ⟨_, H', J, z⟩ => exact ⟨V.non, H', J.os, J.bare, J.base, J.hok, rfl, z⟩
  | .brk, ⟨_, _, _, z⟩ => exact z.elim
  | .cont, ⟨_, _, _, z⟩ => exact z.elim
end
section
variable {X : Cx} {k : Nat} {f : Addr} {fd : FuncData} {ps : List Str} {sp : Sp} {x : Str} {p pos : Pos} {e : Expr} {es : List Expr} {t : TA}
/-- f(e, ..) of such a def -/
theorem pe_callG (F : FnG X.prog X.w X.K X.mg X.base k f fd ps sp) (hg0 : X.A.guards = some []) (hr : Room k X.A) (hg : Gl X x) (hm : X.mg x = some (.ref f)) (hk : PySem.W.keepIn X.K (.ref f) = true) (hb : Binds X.K fd ps []) (ha : PA X (e :: es) t)
    (hdb : (x == ("__debug__" : Str)) = false := by decide) (he : starEach (e :: es) X.env = (false, eval e X.env) :: starEach es X.env := by rfl) (hpl : (backTo pos (starEach es X.env)).any (·.1) = false := by rfl) :
    PE X (.Call (.Name x p) (e :: es) [] pos) (tCall sp [] E0 t) := by
  refine ⟨fun pins s σ H Q I h => wpAny_Call_Name_kw (ld_glob I hg hm (PySem.W.callWith_K (h₀ := X.base) I.ok.mod.kin hk (thn (ha.run pos pins s σ H _ I h) ?_) he hpl) hdb)⟩
  rintro us s1 ⟨vs, H1, I1, r, q⟩
  have q' : sp vs H1 Q E0 := by rw [← List.append_nil vs]; exact q
  have hus : (us ++ []).length = ps.length := by rw [List.append_nil, ← r.length]; exact F.len _ _ _ _ q'
  have bt := hb s1 us I1.kIn hus
  rw [List.append_nil] at bt
  refine ⟨I1.kIn, wpAny_call (codeAny_mono (F.run X.A hg0 X.stack s1 H1 ⟨us, []⟩ us vs Q E0 hr I1.env0 bt r q') ?_)⟩
  intro r s' z
  match r, z with
  | .error _, z => exact z.elim
  | .ok (.ret _), z => exact I1.after z
  | .ok .next, z => exact z.elim
  | .ok .brk, z => exact z.elim
  | .ok .cont, z => exact z.elim
end
/-! ### the law's own call -/
section
variable {P : Program} {w : World} {K : PySem.W.Frag} {mg mb : Str → Option Value} {k : Nat} {fa a : Addr} {fd : FuncData} {x : Str} {sp : Sp} {s1 : Shared} {vs : List Value} {ns : List Int}
/-- what the law's call is to end in -/
def GoodEnd (s1 : Shared) (r : Result) (s' : Shared) : Prop := r = .ok (.ret (.bool true)) ∧ OldK s1.heap s'.heap ∧ s'.os = s1.os ∧ AllBare s'.gens
/-- from an abstract heap that tracks the script at most -/
theorem start_at (hn : s1.heap.Ns mainGlobals mg) (hb : s1.heap.Ns builtinsNs mb) (hbb : ∀ x : Str, x ≠ "__name__" → mb x = bootBuiltins x) (hlim : s1.heap.NoLimit) (hg : s1.gens = #[]) (ko : K.In s1.heap) {o : Obj} (ha : s1.heap.get? a = some o)
    (hd : ∀ es ep, o.data ≠ .dict es ep) (hr : Room k callerA) (F : ∀ base : Heap, K.In base → base.Ns mainGlobals mg → FnG P w K mg base k fa fd [x] sp) (hbind : ∀ (s : Shared) (u : Value), BindsTo s fd ⟨[u], []⟩ [(x, u)])
    {H : Hp} (hs : sp [.ref a] H (fun v _ => v = .bl true) fun _ _ _ => False) (ok : HOk P w H s1.heap) (only : ∀ b u, H b = some u → b = a ∧ u = .frz o (.lst (ns.map V.int)) ∧ K.lookup a = none) :
    codeAny (model P w) callerA (.call (.ref fa) ⟨[.ref a], []⟩) (GoodEnd s1) s1 := by
  have free : ∀ b, b ≠ a → H b = none := fun b n => by
    cases e : H b with
    | none => rfl
    | some u => exact absurd (only b u e).1 n
  have keepNs : ∀ {b : Addr} {m : Str → Option Value}, s1.heap.Ns b m → (hidT s1.heap H).Ns b m := by
    rintro b m ⟨ob, es, ep, e, d, r⟩
    refine ⟨ob, es, ep, hidT_get e (free b ?_), d, r⟩
    rintro rfl
    rw [ha] at e
    cases e
    exact hd _ _ d
  have kb : K.In (hidT s1.heap H) := fun b ob e => hidT_get (ko b ob e) (by
    cases q : H b with
    | none => rfl
    | some u =>
      obtain ⟨rfl, _, z⟩ := only b u q
      rw [z] at e
      cases e)
  obtain ⟨mc, l1, l2⟩ := hlim
  have M : Mod K mg (hidT s1.heap H) := ⟨kb, keepNs hn, ⟨mb, keepNs hb, hbb⟩, ⟨mc, keepNs l1, l2⟩⟩
  have e0 : Env0 P w K mg (hidT s1.heap H) callerA [] s1 H :=
    { frames := rfl, mod := M, bs := fun _ _ e => of_hidT e, bsz := Nat.le_of_eq (hidT_size _ _), funs := trivial, frf := fun _ z => (by cases z), hok := ok, bare := .of_eq hg }
  refine codeAny_mono ((F _ kb (keepNs hn)).run callerA rfl [] s1 H _ [.ref a] [.ref a] _ _ hr e0 (hbind s1 (.ref a)) (.cons rfl .nil) hs) ?_
  intro r s' z
  match r, z with
  | .error _, z => exact z.elim
  | .ok .next, z => exact z.elim
  | .ok .brk, z => exact z.elim
  | .ok .cont, z => exact z.elim
  | .ok (.ret u), ⟨v, H', os, bare, un, ok', rv, q⟩ =>
    cases (show v = V.bl true from q)
    cases (show u = Value.bool true from rv)
    refine ⟨rfl, OldK.of_keep fun b ob e => ?_, os, bare⟩
    cases q : H b with
    | none => exact un.keep b ob e q (fun z => by cases z) (by simp)
    | some uu =>
      obtain ⟨rfl, rfl, _⟩ := only b uu q
      rw [ha] at e
      cases e
      exact (ok' _ _ (un.frzs _ _ _ q)).1
/-- the law's call, its promise told where no repr runs -/
theorem law_callG (hn : s1.heap.Ns mainGlobals mg) (hb : s1.heap.Ns builtinsNs mb) (hbb : ∀ x : Str, x ≠ "__name__" → mb x = bootBuiltins x) (hlim : s1.heap.NoLimit) (hg : s1.gens = #[]) (ko : K.In s1.heap)
    (ha : s1.heap.get? a = some { cls := .type "list", data := .seq vs.toArray }) (hi : IntsAre vs ns) (hl : ns.length ≤ sizeLine) (hr : Room k callerA) (F : ∀ base : Heap, K.In base → base.Ns mainGlobals mg → FnG P w K mg base k fa fd [x] sp)
    (hbind : ∀ (s : Shared) (u : Value), BindsTo s fd ⟨[u], []⟩ [(x, u)]) (hs : ∀ H : Hp, SqL K H a (ns.map V.int) → sp [.ref a] H (fun v _ => v = .bl true) fun _ _ _ => False) :
    codeAny (model P w) callerA (.call (.ref fa) ⟨[.ref a], []⟩) (GoodEnd s1) s1 := by
  have rv := vals_ints hi
  have nd : ∀ es ep, (Data.seq vs.toArray : Data) ≠ .dict es ep := fun es ep z => by cases z
  cases hk : K.lookup a with
  | some o =>
    have e := ko a o hk
    rw [ha] at e
    cases e
    refine start_at (ns := ns) hn hb hbb hlim hg ko ha nd hr F hbind (H := fun _ => none) (hs _ (.inr ⟨_, vs.toArray, _, hk, rfl, rfl, rfl, ?_, by simpa using rv⟩)) (fun b u z => (by cases z)) (fun b u z => (by cases z))
    rw [List.size_toArray, hi.length]
    exact hl
  | none =>
    let o : Obj := { cls := .type "list", data := .seq vs.toArray }
    have at_ : ∀ b u, (fun b => if b = a then some (HO.frz o (.lst (ns.map V.int))) else none : Hp) b = some u → b = a ∧ u = .frz o (.lst (ns.map V.int)) := by
      intro b u z
      by_cases e : b = a
      · subst e
        have z' : some (HO.frz o (.lst (ns.map V.int))) = some u := by simpa using z
        cases z'
        exact ⟨rfl, rfl⟩
      · simp [e] at z
    refine start_at hn hb hbb hlim hg ko ha nd hr F hbind (H := fun b => if b = a then some (.frz o (.lst (ns.map V.int))) else none) (hs _ (.inl (.inr ⟨o, if_pos rfl⟩))) (fun b u z => ?_) (fun b u z => ⟨(at_ b u z).1, (at_ b u z).2, hk⟩)
    obtain ⟨rfl, rfl⟩ := at_ b u z
    exact ⟨ha, by rw [List.length_map]; exact hl, vs, _, rv, ha⟩
end
/-- the goal that the head leaves -/
theorem walk_ofG {l : PySem.W.OpenLaw} {n k : Nat} {q : Program} {loose : List Str} {XP : (Str → Option Value) → Heap → Prop} {YP : World → Heap → Prop} {d : DefRec} {K : Params → PySem.W.Frag} {sp : PySem.W.Frag → Sp} {x : Str} (hn : l.most = some n) (hn2 : n ≤ sizeLine)
    (hdf : d.params.defaults = []) (hr : Room k callerA) (hY : ∀ (w : World) (h : Heap), YP w h → (K w.params).In h)
    (F : ∀ (w : World) (mg : Str → Option Value) (fa : Addr) (h : Heap), (K w.params).In h → h.Ns mainGlobals mg → mg d.name = some (.ref fa) → ∃ fd : FuncData, (∀ (s : Shared) (u : Value), BindsTo s fd ⟨[u], []⟩ [(x, u)]) ∧
      ∀ base : Heap, (K w.params).In base → base.Ns mainGlobals mg → FnG l.prog w (K w.params) mg base k fa fd [x] (sp (K w.params)))
    (hs : ∀ (K : PySem.W.Frag) (H : Hp) (a : Addr) (ns : List Int), ns.length ≤ n → SqL K H a (ns.map V.int) → sp K [.ref a] H (fun v _ => v = .bl true) fun _ _ _ => False) :
    PySem.W.WalkO q loose XP YP l.row.toRowW d [] (fun f vs => PySem.call f vs) :=
  Att.attach_call hn hdf fun w s0 s1 mg mb fa o pm cd doc a vs ns G Y ho hd hcd hmg hobj hints hlen hg => by
    have ko := hY w _ Y
    obtain ⟨fd, hb, hF⟩ := F w mg fa _ ko G.T.g hmg
    exact law_callG G.T.g G.T.b G.T.builtins G.T.nolimit hg ko hobj hints (Nat.le_trans hlen hn2) hr hF hb fun H hS => hs _ H a ns hlen hS
end GF
namespace GF
open PySem PySem.Spec PyProof.Rows L2
/-! ### powers of great ints -/
def CPowW (i j : Int) : Prop := 0 ≤ j ∧ (Builtin.Int.intBits i : Int) * j ≤ 2 ^ 27
theorem op_powW {X : Cx} : OpR X (binaryOp .Pow) (rI CPowW fun i j => .int (i ^ j.toNat)) := opI fun _ _ _ _ _ _ _ hc q => PyProof.Rows.pow_int hc.1 hc.2 q
theorem pow3_ok {i : Int} {n : Nat} (h : i.natAbs < 2 ^ n) (hn : n ≤ 10000) : CPowW i 3 := ⟨by decide, by have := PyProof.Rows.intBits_le h; omega⟩
/-! ### data of any nesting, as it is tracked -/
mutual
inductive Sh (H : Hp) : V → PyData → Prop
  | non : Sh H .non .none
  | bl (b : Bool) : Sh H (.bl b) (.bool b)
  | int (i : Int) : Sh H (.int i) (.int i)
  | str (x : Str) : Sh H (.str x) (.str x)
  | lst {a : Addr} {xs : List V} {ds : List PyData} (h : H a = some (.lst xs)) (r : ShAll H xs ds) : Sh H (.ref a) (.list ds)
  | tup {a : Addr} {xs : List V} {ds : List PyData} (h : H a = some (.tup xs)) (r : ShAll H xs ds) : Sh H (.ref a) (.tuple ds)
  | dict {a : Addr} {kvs : List (Key × V)} {ds : List (PyData × PyData)} (h : H a = some (.dK kvs)) (r : ShKv H kvs ds) : Sh H (.ref a) (.dict ds)
inductive ShAll (H : Hp) : List V → List PyData → Prop
  | nil : ShAll H [] []
  | cons {v : V} {vs : List V} {d : PyData} {ds : List PyData} (h : Sh H v d) (t : ShAll H vs ds) : ShAll H (v :: vs) (d :: ds)
inductive ShKv (H : Hp) : List (Key × V) → List (PyData × PyData) → Prop
  | nil : ShKv H [] []
  | cons {k : Key} {v : V} {vs : List (Key × V)} {d : PyData} {ds : List (PyData × PyData)} (h : Sh H v d) (t : ShKv H vs ds) : ShKv H ((k, v) :: vs) ((match k with | .inl i => .int i | .inr x => .str x, d) :: ds)
end
section
variable {X : Cx} {pins : List (Addr × Obj)} {σ : L2.St} {H : Hp} {s : Shared}
/-- what is told of such a datum in the heap: how it reads, and that repr goes through -/
def Tells (prog : Program) (w : World) (h : Heap) (d : PyData) (u : Value) : Prop := ∃ as bs, Reads h u d as ∧ ReadAtMost h d.depth bs ∧ ReprK prog w bs h d.depth u d.shown
def TellsAll (prog : Program) (w : World) (h : Heap) (ds : List PyData) (us : List Value) : Prop := ∃ as bs, ReadsAll h us ds as ∧ ReadAtMost h (PyData.depthAll ds) bs ∧ ReprAllK prog w bs h (PyData.depthAll ds) us (PyData.shownAll ds)
theorem TellsAll.nil {prog : Program} {w : World} {h : Heap} : TellsAll prog w h [] [] := ⟨_, [], .nil, fun _ z => (by cases z), by simp only [PyData.shownAll]; exact .nil⟩
theorem depth_cons (d : PyData) (ds : List PyData) : d.depth ≤ PyData.depthAll (d :: ds) ∧ PyData.depthAll ds ≤ PyData.depthAll (d :: ds) := by
  simp only [PyData.depthAll]
  omega
theorem TellsAll.cons {prog : Program} {w : World} {h : Heap} {d : PyData} {ds : List PyData} {u : Value} {us : List Value} (a : Tells prog w h d u) (b : TellsAll prog w h ds us) : TellsAll prog w h (d :: ds) (u :: us) := by
  obtain ⟨a1, b1, r1, m1, k1⟩ := a
  obtain ⟨a2, b2, r2, m2, k2⟩ := b
  obtain ⟨e1, e2⟩ := depth_cons d ds
  refine ⟨_, b1 ++ b2, .cons r1 r2, (m1.mono e1).append (m2.mono e2), ?_⟩
  simp only [PyData.shownAll]
  exact .cons ((k1.more fun b hb => List.mem_append_left _ hb).level_le e1) (k2.more_le (fun b hb => List.mem_append_right _ hb) e2)
theorem shown_key_le (kvs : List (PyData × PyData)) : PyData.depthAll (kvs.map (·.1)) ≤ PyData.depthKv kvs ∧ PyData.depthAll (kvs.map (·.2)) ≤ PyData.depthKv kvs := ⟨PyData.depthAll_keys_le kvs, PyData.depthAll_vals_le kvs⟩
mutual
theorem Sh.tells (I : Inv X pins σ H s) : ∀ (d : PyData) (v : V) (u : Value), Sh H v d → RelV v u → d.showable = true → d.shown.length ≤ sizeLine → Tells X.prog X.w s.heap d u
  | .none, _, _, h, r, _, _ => by cases h; cases r; exact ⟨_, [], .none, fun _ z => (by cases z), by simp only [PyData.shown]; exact .of_is ReprIs.none _ _ _⟩
  | .bool b, _, _, h, r, _, _ => by cases h; cases r; exact ⟨_, [], .bool b, fun _ z => (by cases z), by simp only [PyData.shown]; exact .of_is (ReprIs.bool b) _ _ _⟩
  | .int i, _, _, h, r, hw, _ => by cases h; obtain ⟨t, rfl⟩ := r; exact ⟨_, [], .int i t, fun _ z => (by cases z), by simp only [PyData.shown]; exact .of_is (ReprIs.int t (by simpa [PyData.showable] using hw)) _ _ _⟩
  | .str x, _, _, h, r, _, hz => by cases h; obtain ⟨t, rfl⟩ := r; exact ⟨_, [], .str x t, fun _ z => (by cases z), by simp only [PyData.shown] at hz ⊢; exact .of_is (ReprIs.str x t hz) _ _ _⟩
  | .list ds, _, _, h, r, hw, hz => by
    cases h with
    | lst ha ra =>
      cases r
      obtain ⟨_, its, n, rv, e⟩ := I.hok _ _ ha
      simp only [PyData.shown] at hz
      obtain ⟨as, bs, q1, q2, q3⟩ := ShAll.tells I ds _ its ra rv (by simpa [PyData.showable] using hw) fun t ht => Nat.le_trans (listText_mem_le ht) hz
      have rd : Reads s.heap _ (.list ds) _ := .list e rfl rfl q1
      have na := not_mem_of_deeper rd (by simp only [PyData.depth]; omega) q2
      refine ⟨_, _, rd, ReadAtMost.cons rd (by simp only [PyData.depth]; omega) q2, ?_⟩
      simp only [PyData.depth, PyData.shown]
      cases its with
      | nil =>
        cases q1
        simp only [PyData.shownAll, listText_nil]
        exact ReprK.listEmpty e rfl rfl
      | cons x l => exact ReprK.list e rfl rfl na (by simpa using q3.length_eq) fun i y ey => q3.item i y (by simpa using ey)
  | .tuple ds, _, _, h, r, hw, hz => by
    cases h with
    | tup ha ra =>
      cases r
      obtain ⟨_, its, rv, o, e, c, n, dd⟩ := I.hok _ _ ha
      simp only [PyData.shown] at hz
      obtain ⟨as, bs, q1, q2, q3⟩ := ShAll.tells I ds _ its ra rv (by simpa [PyData.showable] using hw) fun t ht => Nat.le_trans (tupleText_mem_le ht) hz
      have rd : Reads s.heap _ (.tuple ds) _ := .tuple e c dd q1
      have na := not_mem_of_deeper rd (by simp only [PyData.depth]; omega) q2
      refine ⟨_, _, rd, ReadAtMost.cons rd (by simp only [PyData.depth]; omega) q2, ?_⟩
      simp only [PyData.depth, PyData.shown]
      exact ReprK.tuple e c dd na q3
  | .dict ds, _, _, h, r, hw, hz => by
    cases h with
    | dict ha ra =>
      cases r
      obtain ⟨_, hs, vs, rv, o, es, ep, e, c, dd, _, pr, _⟩ := I.hok _ _ ha
      simp only [PyData.shown] at hz
      obtain ⟨w1, w2⟩ := PyData.showableKv_split ds (by simpa [PyData.showable] using hw)
      obtain ⟨⟨a1, b1, r1, m1, k1⟩, a2, b2, r2, m2, k2⟩ := ShKv.tells I ds _ vs es.toList ra rv pr w1 w2 (fun t ht => let ⟨p, hp, hl⟩ := PyData.shownKv_key_le ds t ht; Nat.le_trans hl (Nat.le_trans (dictText_mem_le hp) hz))
        (fun t ht => let ⟨p, hp, hl⟩ := PyData.shownKv_val_le ds t ht; Nat.le_trans hl (Nat.le_trans (dictText_mem_le hp) hz))
      obtain ⟨d1, d2⟩ := shown_key_le ds
      have rd : Reads s.heap _ (.dict ds) _ := .dict e c.1 dd r1 r2
      have mm := (m1.mono d1).append (m2.mono d2)
      have na := not_mem_of_deeper rd (by simp only [PyData.depth]; omega) mm
      refine ⟨_, _, rd, ReadAtMost.cons rd (by simp only [PyData.depth]; omega) mm, ?_⟩
      simp only [PyData.depth, PyData.shown, PyData.shownKv_eq]
      exact ReprK.dict e c.1 dd hs na (ReprEntriesK.of_two es.toList _ _ (k1.more_le (fun b hb => List.mem_append_left _ hb) d1) (k2.more_le (fun b hb => List.mem_append_right _ hb) d2))
theorem ShAll.tells (I : Inv X pins σ H s) : ∀ (ds : List PyData) (vs : List V) (us : List Value), ShAll H vs ds → Vals vs us → PyData.showableAll ds = true → (∀ t ∈ PyData.shownAll ds, t.length ≤ sizeLine) → TellsAll X.prog X.w s.heap ds us
  | [], _, _, h, r, _, _ => by cases h; cases r; exact .nil
  | d :: ds, _, _, h, r, hw, hz => by
    cases h with
    | cons h t =>
      cases r with
      | cons r1 r2 =>
        simp only [PyData.showableAll, Bool.and_eq_true] at hw
        simp only [PyData.shownAll] at hz
        exact .cons (Sh.tells I d _ _ h r1 hw.1 (hz _ List.mem_cons_self)) (ShAll.tells I ds _ _ t r2 hw.2 fun t ht => hz t (List.mem_cons_of_mem _ ht))
theorem ShKv.tells (I : Inv X pins σ H s) : ∀ (ds : List (PyData × PyData)) (kvs : List (Key × V)) (us : List (Key × Value)) (es : List DictEntry), ShKv H kvs ds → KV kvs us → Pairs (mixKind X.prog X.w) es us → PyData.showableAll (ds.map (·.1)) = true → PyData.showableAll (ds.map (·.2)) = true →
    (∀ t ∈ PyData.shownAll (ds.map (·.1)), t.length ≤ sizeLine) → (∀ t ∈ PyData.shownAll (ds.map (·.2)), t.length ≤ sizeLine) → TellsAll X.prog X.w s.heap (ds.map (·.1)) (es.map (·.key)) ∧ TellsAll X.prog X.w s.heap (ds.map (·.2)) (es.map (·.val))
  | [], _, _, _, h, r, p, _, _, _, _ => by
    cases h
    unfold KV at r
    cases r
    cases p
    exact ⟨.nil, .nil⟩
  | d :: ds, _, _, _, h, r, p, w1, w2, z1, z2 => by
    cases h with
    | @cons k v vs d ds h t =>
      unfold KV at r
      cases r with
      | @cons _ q _ qs r1 r2 =>
        obtain ⟨r1a, r1b⟩ := r1
        cases p with
        | @cons e _ es _ p1 p2 p3 =>
          simp only [List.map_cons, PyData.showableAll, Bool.and_eq_true] at w1 w2
          simp only [List.map_cons, PyData.shownAll] at z1 z2
          obtain ⟨t1, t2⟩ := ShKv.tells I ds vs qs es t r2 p3 w1.2 w2.2 (fun t ht => z1 t (List.mem_cons_of_mem _ ht)) (fun t ht => z2 t (List.mem_cons_of_mem _ ht))
          have tv := Sh.tells I d _ _ h r1b w2.1 (z2 _ List.mem_cons_self)
          rw [← p2] at tv
          refine ⟨.cons ?_ t1, .cons tv t2⟩
          have p1' : keyIs q.1 e.key = true := p1
          rw [← r1a] at p1'
          cases k with
          | inl i =>
            obtain ⟨t, ee⟩ := Value.isInt_shape (k := i) (v := e.key) p1'
            show Tells _ _ _ _ e.key
            rw [ee]
            exact ⟨_, [], .int i t, fun _ z => (by cases z), by simp only [PyData.shown]; exact .of_is (ReprIs.int t (by simpa [PyData.showable] using w1.1)) _ _ _⟩
          | inr x =>
            obtain ⟨t, ee⟩ := Value.isStrOf_shape (x := x) (v := e.key) p1'
            show Tells _ _ _ _ e.key
            rw [ee]
            exact ⟨_, [], .str x t, fun _ z => (by cases z), by have := z1 _ List.mem_cons_self; simp only [PyData.shown] at this ⊢; exact .of_is (ReprIs.str x t this) _ _ _⟩
end
end
/-- repr of a list or a dict -/
def rRepr : List V → Hp → VK → Prop := fun xs H Q => ∃ (a : Addr) (d : PyData), xs = [.ref a] ∧ Sh H (.ref a) d ∧ d.showable = true ∧ d.depth ≤ 60 ∧ d.shown.length ≤ sizeLine ∧ Q (.str d.shown) H
theorem call_reprD {X : Cx} (hg : X.A.guards = some []) (hu : X.A.units + 64 < cLine) : CallR X (.builtin "repr") rRepr := by
  intro pins s σ H xs us Q I r h
  obtain ⟨a, d, rfl, sh, hw, hd, hz, q⟩ := h
  obtain ⟨u, rfl, ru⟩ := vals1 r
  cases ru
  have fin : ∀ (h' : Heap) (t : Tok) (tk : Nat), (∀ b o, s.heap.get? b = some o → h'.get? b = some o) → ∃ x t', Value.str d.shown t = .str x t' ∧ EP X pins σ Q (.str d.shown t) { s with heap := h', toks := tk } :=
    fun h' t tk hk => ⟨_, _, rfl, .str d.shown, H, I.kept hk, ⟨t, rfl⟩, q⟩
  cases sh with
  | @lst _ xs ds ha ra =>
    obtain ⟨_, its, n, rv, e⟩ := I.hok _ _ ha
    simp only [PyData.shown] at hz
    simp only [PyData.depth] at hd
    obtain ⟨as, bs, q1, q2, q3⟩ := ShAll.tells I ds _ its ra rv (by simpa [PyData.showable] using hw) fun t ht => Nat.le_trans (listText_mem_le ht) hz
    have rd : Reads s.heap _ (.list ds) _ := .list e rfl rfl q1
    have na := not_mem_of_deeper rd (by simp only [PyData.depth]; omega) q2
    refine call_repr_slot (by omega) ⟨_, e, rfl⟩ F.slot_list_repr.toG ?_
    simp only [PyData.shown] at fin
    cases its with
    | nil =>
      cases q1
      simp only [PyData.shownAll, listText_nil] at fin
      exact call_list_repr_empty ⟨_, e, rfl⟩ e rfl (fin s.heap _ _ fun _ _ z => z)
    | cons x l => exact call_list_reprK e rfl rfl na (by simpa using q3.length_eq) (fun i y ey => q3.item i y (by simpa using ey)) hg (fun b _ => Clear.nil b) (by show X.A.units + 1 + _ < cLine; omega) (fun _ _ z => z) (fun h' u tk hk => fin h' u tk hk) hz
  | @tup _ xs ds ha ra =>
    obtain ⟨_, its, rv, o, e, c, n, dd⟩ := I.hok _ _ ha
    simp only [PyData.shown] at hz
    simp only [PyData.depth] at hd
    obtain ⟨as, bs, q1, q2, q3⟩ := ShAll.tells I ds _ its ra rv (by simpa [PyData.showable] using hw) fun t ht => Nat.le_trans (tupleText_mem_le ht) hz
    have rd : Reads s.heap _ (.tuple ds) _ := .tuple e c dd q1
    have na := not_mem_of_deeper rd (by simp only [PyData.depth]; omega) q2
    refine call_repr_slot (by omega) ⟨_, e, c⟩ F.slot_tuple_repr ?_
    simp only [PyData.shown] at fin
    exact call_tuple_reprK e c dd na q3 hg (fun b _ => Clear.nil b) (by show X.A.units + 1 + _ < cLine; omega) (fun _ _ z => z) (fun h' u tk hk => fin h' u tk hk) hz
  | @dict _ kvs ds ha ra =>
    obtain ⟨_, hs, vs, rv, o, es, ep, e, c, dd, _, pr, _⟩ := I.hok _ _ ha
    simp only [PyData.shown] at hz
    simp only [PyData.depth] at hd
    obtain ⟨w1, w2⟩ := PyData.showableKv_split ds (by simpa [PyData.showable] using hw)
    obtain ⟨⟨a1, b1, r1, m1, k1⟩, a2, b2, r2, m2, k2⟩ := ShKv.tells I ds _ vs es.toList ra rv pr w1 w2 (fun t ht => let ⟨p, hp, hl⟩ := PyData.shownKv_key_le ds t ht; Nat.le_trans hl (Nat.le_trans (dictText_mem_le hp) hz))
      (fun t ht => let ⟨p, hp, hl⟩ := PyData.shownKv_val_le ds t ht; Nat.le_trans hl (Nat.le_trans (dictText_mem_le hp) hz))
    obtain ⟨d1, d2⟩ := shown_key_le ds
    have rd : Reads s.heap _ (.dict ds) _ := .dict e c.1 dd r1 r2
    have mm := (m1.mono d1).append (m2.mono d2)
    have na := not_mem_of_deeper rd (by simp only [PyData.depth]; omega) mm
    refine call_repr_slot (by omega) ⟨_, e, c.1⟩ F.slot_dict_repr ?_
    simp only [PyData.shown, PyData.shownKv_eq] at fin hz
    exact call_dict_reprK e c.1 dd hs na (ReprEntriesK.of_two es.toList _ _ (k1.more_le (fun b hb => List.mem_append_left _ hb) d1) (k2.more_le (fun b hb => List.mem_append_right _ hb) d2)) hg (fun b _ => Clear.nil b)
      (by show X.A.units + 1 + _ < cLine; omega) (fun _ _ z => z) (fun h' u tk hk => fin h' u tk hk) hz
end GF
namespace GF
open PySem PySem.Spec PyProof.Rows L2
/-! ### how long the texts of names, lists and dicts of names are -/
theorem textFrom_le : ∀ (ts : List Str) (k : Nat) (acc : Str), (textFrom k acc ts).length ≤ acc.length + piled ts
  | [], _, acc => by show acc.length ≤ acc.length + 0; omega
  | t :: r, k, acc => by
    have ih := textFrom_le r (k + 1) (acc ++ (if k > 0 then ", " else "" : String) ++ t)
    have e : (acc ++ (if k > 0 then ", " else "" : String) ++ t).length ≤ acc.length + 2 + t.length := by
      rw [strLen_append, strLen_append]
      split
      · show acc.length + 2 + t.length ≤ _; omega
      · show acc.length + 0 + t.length ≤ _; omega
    show (textFrom (k + 1) _ r).length ≤ _
    rw [piled_cons]
    omega
theorem listText_le (ts : List Str) : (listText ts).length ≤ 2 + piled ts := by
  have h := textFrom_le ts 0 "["
  unfold listText
  rw [strLen_append]
  have e1 : (("[" : String) : Str).length = 1 := rfl
  have e2 : (("]" : String) : Str).length = 1 := rfl
  omega
theorem dictText_le (ts : List Str) : (dictText ts).length ≤ 2 + piled ts := by
  have e : (dictText ts).length = 1 + (Str.join ", " ts).length + 1 := by
    unfold dictText
    rw [strLen_append, strLen_append]; rfl
  by_cases h : ts = []
  · subst h
    rw [e]
    show 1 + 0 + 1 ≤ 2 + piled []
    omega
  · have := join_length_add ts h
    omega
theorem piled_le {ts : List Str} {B : Nat} (h : ∀ t ∈ ts, t.length ≤ B) : piled ts ≤ ts.length * (B + 2) := by
  induction ts with
  | nil => simp [piled]
  | cons t r ih =>
    have h1 := h t List.mem_cons_self
    have h2 := ih fun x hx => h x (List.mem_cons_of_mem _ hx)
    rw [piled_cons, List.length_cons, Nat.add_mul]
    omega
abbrev nmD (l : List Str) : PyData := .list (l.map PyData.str)
def dictL (ks : List Str) (f : Str → List Str) : PyData := .dict (ks.map fun m => (.str m, nmD (f m)))
def dictH (ks : List Str) (g : Str → Str) : PyData := .dict (ks.map fun m => (.str m, .str (g m)))
def Nm (x : Str) : Prop := x.length ≤ 8 ∧ ∀ c ∈ x.cps.toList, c < 16 ^ 8
theorem Nm.len {x : Str} (h : Nm x) : (reprText x).length ≤ 82 := by
  have := StrLaws.reprText_len x h.2
  have := h.1
  omega
theorem shownAll_map (l : List Str) : PyData.shownAll (l.map PyData.str) = l.map reprText := by
  induction l with
  | nil => rfl
  | cons x r ih => simp only [List.map_cons, PyData.shownAll, PyData.shown, ih]
theorem len_nmD {l : List Str} (h : ∀ x ∈ l, Nm x) : (nmD l).shown.length ≤ 2 + l.length * 84 := by
  unfold nmD
  rw [PyData.shown, shownAll_map]
  refine Nat.le_trans (listText_le _) (Nat.add_le_add_left ?_ 2)
  have := piled_le (ts := l.map reprText) (B := 82) fun t ht => by
    obtain ⟨x, hx, rfl⟩ := List.mem_map.mp ht
    exact (h x hx).len
  rwa [List.length_map] at this
theorem shownKv_map (ks : List Str) (g : Str → PyData) : PyData.shownKv (ks.map fun m => (.str m, g m)) = ks.map fun m => reprText m ++ ": " ++ (g m).shown := by
  induction ks with
  | nil => rfl
  | cons x r ih => simp only [List.map_cons, PyData.shownKv, PyData.shown, ih]
theorem len_dict {ks : List Str} {g : Str → PyData} {B : Nat} (h : ∀ m ∈ ks, Nm m) (hg : ∀ m ∈ ks, (g m).shown.length ≤ B) : (PyData.shown (.dict (ks.map fun m => (.str m, g m)))).length ≤ 2 + ks.length * (B + 86) := by
  rw [PyData.shown, shownKv_map]
  refine Nat.le_trans (dictText_le _) (Nat.add_le_add_left ?_ 2)
  have := piled_le (ts := ks.map fun m => reprText m ++ ": " ++ (g m).shown) (B := B + 84) fun t ht => by
    obtain ⟨x, hx, rfl⟩ := List.mem_map.mp ht
    have h1 := (h x hx).len
    have h2 := hg x hx
    rw [strLen_append, strLen_append]
    have e2 : ((": " : String) : Str).length = 2 := rfl
    omega
  rwa [List.length_map] at this
theorem showable_nmD (l : List Str) : (nmD l).showable = true := by
  unfold nmD
  rw [PyData.showable]
  induction l with
  | nil => rfl
  | cons x r ih => simp only [List.map_cons, PyData.showableAll, PyData.showable, ih, Bool.and_self]
theorem showable_dict {ks : List Str} {g : Str → PyData} (hg : ∀ m ∈ ks, (g m).showable = true) : PyData.showable (.dict (ks.map fun m => (.str m, g m))) = true := by
  rw [PyData.showable]
  induction ks with
  | nil => rfl
  | cons x r ih => simp only [List.map_cons, PyData.showableKv, PyData.showable, ih fun m hm => hg m (List.mem_cons_of_mem _ hm), hg x List.mem_cons_self, Bool.and_self]
theorem deep_nmD (l : List Str) : (nmD l).depth ≤ 3 := by
  have := depth_strs l
  simp only [nmD, PyData.depth]
  omega
theorem deep_dict {ks : List Str} {g : Str → PyData} {n : Nat} (hg : ∀ m ∈ ks, (g m).depth ≤ n) : PyData.depth (.dict (ks.map fun m => (.str m, g m))) ≤ n + 2 := by
  simp only [PyData.depth]
  have : PyData.depthKv (ks.map fun m => (PyData.str m, g m)) ≤ n + 1 := by
    induction ks with
    | nil => simp [PyData.depthKv]
    | cons x r ih =>
      have h1 := ih fun m hm => hg m (List.mem_cons_of_mem _ hm)
      have h2 := hg x List.mem_cons_self
      simp only [List.map_cons, PyData.depthKv, PyData.depth]
      omega
  omega
theorem shAll_strs {H : Hp} (l : List Str) : ShAll H (sv l) (l.map PyData.str) := by
  induction l with
  | nil => exact .nil
  | cons x r ih => exact .cons (.str x) ih
theorem sh_nmD {H : Hp} {a : Addr} {l : List Str} (h : H a = some (.lst (sv l))) : Sh H (.ref a) (nmD l) := .lst h (shAll_strs l)
theorem shKv_mkd {H : Hp} {ks : List Str} {v : Str → V} {g : Str → PyData} (h : ∀ m ∈ ks, Sh H (v m) (g m)) : ShKv H (mkd ks v) (ks.map fun m => (.str m, g m)) := by
  induction ks with
  | nil => exact .nil
  | cons x r ih => exact .cons (k := .inr x) (h x List.mem_cons_self) (ih fun m hm => h m (List.mem_cons_of_mem _ hm))
theorem sh_dl {H : Hp} {d : Addr} {ks : List Str} {ad : Str → Addr} {f : Str → List Str} (h : DL H d ks ad f) : Sh H (.ref d) (dictL ks f) := .dict h.dict (shKv_mkd fun m hm => sh_nmD (h.at_ m hm))
theorem sh_dh {H : Hp} {d : Addr} {ks : List Str} {v : Str → V} {g : Str → Str} (h : H d = some (.dK (mkd ks v))) (e : ∀ m ∈ ks, v m = .str (g m)) : Sh H (.ref d) (dictH ks g) := .dict h (shKv_mkd fun m hm => by rw [e m hm]; exact .str _)
/-- lists and dicts of names that repr takes -/
structure Fit (d : PyData) (n : Nat) : Prop where
  sh : d.showable = true
  dp : d.depth ≤ 8
  ln : d.shown.length ≤ n
theorem fit_nmD {l : List Str} (h : ∀ x ∈ l, Nm x) : Fit (nmD l) (2 + l.length * 84) := ⟨showable_nmD l, Nat.le_trans (deep_nmD l) (by decide), len_nmD h⟩
theorem fit_dictL {ks : List Str} {f : Str → List Str} {L : Nat} (h : ∀ m ∈ ks, Nm m) (hf : ∀ m ∈ ks, ∀ x ∈ f m, Nm x) (hl : ∀ m ∈ ks, (f m).length ≤ L) : Fit (dictL ks f) (2 + ks.length * (2 + L * 84 + 86)) :=
  ⟨showable_dict fun m _ => showable_nmD _, Nat.le_trans (deep_dict (n := 3) fun m _ => deep_nmD _) (by decide), len_dict h fun m hm => Nat.le_trans (len_nmD (hf m hm)) (Nat.add_le_add_left (Nat.mul_le_mul_right _ (hl m hm)) 2)⟩
theorem fit_dictH {ks : List Str} {g : Str → Str} (h : ∀ m ∈ ks, Nm m) (hg : ∀ m ∈ ks, Nm (g m)) : Fit (dictH ks g) (2 + ks.length * (82 + 86)) :=
  ⟨showable_dict fun m _ => rfl, Nat.le_trans (deep_dict (n := 1) fun m _ => by simp [PyData.depth]) (by decide), len_dict h fun m hm => by rw [PyData.shown]; exact (hg m hm).len⟩
theorem fit_two {d e : PyData} {n m : Nat} (a : Fit d n) (b : Fit e m) : PyData.showable (.list [d, e]) = true ∧ PyData.depth (.list [d, e]) ≤ 60 ∧ (PyData.shown (.list [d, e])).length ≤ n + m + 6 := by
  refine ⟨by simp only [PyData.showable, PyData.showableAll, a.sh, b.sh, Bool.and_self], ?_, ?_⟩
  · have := a.dp
    have := b.dp
    simp only [PyData.depth, PyData.depthAll]
    omega
  · have h := listText_le [d.shown, e.shown]
    have := a.ln
    have := b.ln
    simp only [PyData.shown, PyData.shownAll]
    simp only [piled_cons, piled_nil] at h
    omega
theorem fit_three {d e f : PyData} {n m k : Nat} (a : Fit d n) (b : Fit e m) (c : Fit f k) : PyData.showable (.list [d, e, f]) = true ∧ PyData.depth (.list [d, e, f]) ≤ 60 ∧ (PyData.shown (.list [d, e, f])).length ≤ n + m + k + 8 := by
  refine ⟨by simp only [PyData.showable, PyData.showableAll, a.sh, b.sh, c.sh, Bool.and_self], ?_, ?_⟩
  · have := a.dp
    have := b.dp
    have := c.dp
    simp only [PyData.depth, PyData.depthAll]
    omega
  · have h := listText_le [d.shown, e.shown, f.shown]
    have := a.ln
    have := b.ln
    have := c.ln
    simp only [PyData.shown, PyData.shownAll]
    simp only [piled_cons, piled_nil] at h
    omega
end GF
namespace GF
open PySem PySem.Spec PyProof.Rows L2
/-! ### rings of first entries, in plain Lean -/
theorem nodup_len : ∀ {r es : List Str}, r.Nodup → (∀ x ∈ r, x ∈ es) → r.length ≤ es.length
  | [], _, _, _ => Nat.zero_le _
  | x :: r, es, nd, h => by
    obtain ⟨n1, n2⟩ := List.nodup_cons.mp nd
    have hx := h x List.mem_cons_self
    have l1 := List.length_erase_of_mem hx
    have l0 := List.length_pos_of_mem hx
    have ih := nodup_len (r := r) (es := es.erase x) n2 fun y hy => (List.mem_erase_of_ne (fun z => n1 (by rw [← z]; exact hy))).mpr (h y (List.mem_cons_of_mem _ hy))
    rw [List.length_cons]
    omega
section
variable (E : Str → Prop) [DecidablePred E] (g : Str → Str) (x0 : Str)
/-- from here on: found is passed, at most k turns are left -/
def run : Nat → List Str → Str → Option (List Str)
  | 0, _, _ => none
  | k + 1, found, here => if E here then (if g here = x0 then some found else run k (found ++ [g here]) (g here)) else none
def it : Nat → Str
  | 0 => x0
  | i + 1 => g (it i)
def chain (n : Nat) : List Str := (List.range n).map (it g x0)
theorem chain_len (n : Nat) : (chain g x0 n).length = n := by simp [chain]
theorem chain_snoc (n : Nat) : chain g x0 (n + 1) = chain g x0 n ++ [it g x0 n] := by simp [chain, List.range_succ]
theorem run_more : ∀ (k : Nat) (found : List Str) (here : Str) (r : List Str), run E g x0 k found here = some r → found.length ≤ r.length ∧ ∀ k', r.length + 1 ≤ k' + found.length → run E g x0 k' found here = some r
  | 0, _, _, _, h => by simp [run] at h
  | k + 1, found, here, r, h => by
    unfold run at h
    by_cases z : E here
    · rw [if_pos z] at h
      by_cases y : g here = x0
      · rw [if_pos y] at h
        cases h
        refine ⟨Nat.le_refl _, fun k' hk => ?_⟩
        cases k' with
        | zero => omega
        | succ k' => unfold run; rw [if_pos z, if_pos y]
      · rw [if_neg y] at h
        obtain ⟨i1, i2⟩ := run_more k _ _ r h
        rw [List.length_append, List.length_singleton] at i1 i2
        refine ⟨by omega, fun k' hk => ?_⟩
        cases k' with
        | zero => omega
        | succ k' => unfold run; rw [if_pos z, if_neg y]; exact i2 k' (by omega)
    · rw [if_neg z] at h
      cases h
theorem run_spec : ∀ (k L : Nat) (r : List Str), run E g x0 k (chain g x0 (L + 1)) (it g x0 L) = some r →
    ∃ M, L ≤ M ∧ r = chain g x0 (M + 1) ∧ (∀ i, L ≤ i → i ≤ M → E (it g x0 i)) ∧ it g x0 (M + 1) = x0 ∧ ∀ i, L < i → i ≤ M → it g x0 i ≠ x0
  | 0, _, _, h => by simp [run] at h
  | k + 1, L, r, h => by
    unfold run at h
    by_cases z : E (it g x0 L)
    · rw [if_pos z] at h
      by_cases y : g (it g x0 L) = x0
      · rw [if_pos y] at h
        cases h
        exact ⟨L, Nat.le_refl _, rfl, fun i h1 h2 => by rw [show i = L by omega]; exact z, y, fun i h1 h2 => by omega⟩
      · rw [if_neg y, show g (it g x0 L) = it g x0 (L + 1) from rfl, ← chain_snoc] at h
        obtain ⟨M, m1, m2, m3, m4, m5⟩ := run_spec k (L + 1) r h
        refine ⟨M, by omega, m2, fun i h1 h2 => ?_, m4, fun i h1 h2 => ?_⟩
        · by_cases e : i = L
          · rw [e]; exact z
          · exact m3 i (by omega) h2
        · by_cases e : i = L + 1
          · rw [e]; exact y
          · exact m5 i (by omega) h2
    · rw [if_neg z] at h
      cases h
theorem it_add (i j : Nat) (h : it g x0 i = it g x0 j) : ∀ d, it g x0 (i + d) = it g x0 (j + d)
  | 0 => h
  | d + 1 => by
    show g (it g x0 (i + d)) = g (it g x0 (j + d))
    rw [it_add i j h d]
/-- what is found is not longer than there are members with an entry -/
theorem run_short {k : Nat} {r es : List Str} (he : ∀ x, E x → x ∈ es) (h : run E g x0 k [x0] x0 = some r) : r.length ≤ es.length := by
  obtain ⟨M, _, m2, m3, m4, m5⟩ := run_spec E g x0 k 0 r h
  refine nodup_len ?_ fun x hx => ?_
  · rw [m2]
    unfold chain List.Nodup
    rw [List.pairwise_map]
    refine List.Pairwise.imp_of_mem ?_ List.pairwise_lt_range
    intro i j hi hj lt e
    rw [List.mem_range] at hi hj
    have := it_add g x0 i j e (M + 1 - j)
    rw [show j + (M + 1 - j) = M + 1 by omega, m4] at this
    exact m5 (i + (M + 1 - j)) (by omega) (by omega) this
  · rw [m2] at hx
    unfold chain at hx
    obtain ⟨i, hi, rfl⟩ := List.mem_map.mp hx
    rw [List.mem_range] at hi
    exact he _ (m3 i (by omega) (by omega))
theorem run_stable {es : List Str} (he : ∀ x, E x → x ∈ es) {k : Nat} (hk : es.length ≤ k) : run E g x0 k [x0] x0 = run E g x0 es.length [x0] x0 := by
  cases h : run E g x0 k [x0] x0 with
  | some r =>
    have := run_short E g x0 he h
    exact ((run_more E g x0 k _ _ r h).2 es.length (by show r.length + 1 ≤ es.length + 1; omega)).symm
  | none =>
    cases h2 : run E g x0 es.length [x0] x0 with
    | none => rfl
    | some r =>
      have := run_short E g x0 he h2
      have h3 := (run_more E g x0 es.length _ _ r h2).2 k (by show r.length + 1 ≤ k + 1; omega)
      rw [h] at h3
      cases h3
/-- where each entry had the document before the member: no ring -/
theorem run_none (rank : Str → Nat) (hr : ∀ x, E x → rank (g x) < rank x) (k : Nat) : run E g x0 k [x0] x0 = none := by
  cases h : run E g x0 k [x0] x0 with
  | none => rfl
  | some r =>
    obtain ⟨M, _, m2, m3, m4, m5⟩ := run_spec E g x0 k 0 r h
    have lt : ∀ i, i ≤ M → rank (it g x0 (i + 1)) < rank x0 := by
      intro i hi
      induction i with
      | zero => exact hr _ (m3 0 (Nat.le_refl _) (Nat.zero_le _))
      | succ i ih => exact Nat.lt_trans (hr _ (m3 (i + 1) (Nat.zero_le _) hi)) (ih (by omega))
    have := lt M (Nat.le_refl _)
    rw [m4] at this
    omega
end
theorem findSome_filter {F : Str → Option (List Str)} {p : Str → Bool} : ∀ {l : List Str}, (∀ m ∈ l, p m = false → F m = none) → l.findSome? F = (l.filter p).findSome? F
  | [], _ => rfl
  | x :: r, h => by
    have ih := findSome_filter (l := r) fun m hm => h m (List.mem_cons_of_mem _ hm)
    cases e : p x with
    | true =>
      rw [List.filter_cons_of_pos e, List.findSome?_cons, List.findSome?_cons, ih]
    | false =>
      rw [List.filter_cons_of_neg (by simp [e]), List.findSome?_cons, h x List.mem_cons_self e, ih]
end GF
namespace K30
open PySem PySem.Spec PyProof.Rows L2 GF
/-! ### the text by places (printed by gen.py) -/
def topS (i : Nat) : Stmt := PySem.Challenge.pw_gotfrom_k30_rings_of_known_lists.main.body.getD i (.Pass ⟨0, 0, 0, 0⟩)
abbrev s_is_name : Stmt := topS 9
theorem sc_is_name : FnScope ["value", "letter"] ["value"] (defScope s_is_name) := ⟨rfl, rfl, rfl, by decide +kernel, rfl, by decide +kernel, by decide +kernel⟩
-- slots: 0:value 1:letter
abbrev s_is_members : Stmt := topS 10
theorem sc_is_members : FnScope ["value", "member", "one", "other"] ["value"] (defScope s_is_members) := ⟨rfl, rfl, rfl, by decide +kernel, rfl, by decide +kernel, by decide +kernel⟩
-- slots: 0:value 1:member 2:one 3:other
abbrev s_need_members : Stmt := topS 11
theorem sc_need_members : FnScope ["members"] ["members"] (defScope s_need_members) := ⟨rfl, rfl, rfl, by decide +kernel, rfl, by decide +kernel, by decide +kernel⟩
-- slots: 0:members
abbrev s_is_member : Stmt := topS 12
theorem sc_is_member : FnScope ["members", "value"] ["members", "value"] (defScope s_is_member) := ⟨rfl, rfl, rfl, by decide +kernel, rfl, by decide +kernel, by decide +kernel⟩
-- slots: 0:members 1:value
abbrev s_need_member : Stmt := topS 13
theorem sc_need_member : FnScope ["members", "value"] ["members", "value"] (defScope s_need_member) := ⟨rfl, rfl, rfl, by decide +kernel, rfl, by decide +kernel, by decide +kernel⟩
-- slots: 0:members 1:value
abbrev s_are_lists_of : Stmt := topS 15
theorem sc_are_lists_of : FnScope ["members", "value", "member", "entries", "giver"] ["members", "value"] (defScope s_are_lists_of) := ⟨rfl, rfl, rfl, by decide +kernel, rfl, by decide +kernel, by decide +kernel⟩
-- slots: 0:members 1:value 2:member 3:entries 4:giver
abbrev s_need_lists : Stmt := topS 16
theorem sc_need_lists : FnScope ["members", "first", "lists"] ["members", "first", "lists"] (defScope s_need_lists) := ⟨rfl, rfl, rfl, by decide +kernel, rfl, by decide +kernel, by decide +kernel⟩
-- slots: 0:members 1:first 2:lists
abbrev s_starts_of : Stmt := topS 17
theorem sc_starts_of : FnScope ["members", "first", "lists", "member"] ["members", "first", "lists"] (defScope s_starts_of) := ⟨rfl, rfl, rfl, by decide +kernel, rfl, by decide +kernel, by decide +kernel⟩
-- slots: 0:members 1:first 2:lists 3:member
abbrev s_ring_at : Stmt := topS 18
theorem sc_ring_at : FnScope ["starts", "member", "found", "giver"] ["starts", "member"] (defScope s_ring_at) := ⟨rfl, rfl, rfl, by decide +kernel, rfl, by decide +kernel, by decide +kernel⟩
-- slots: 0:starts 1:member 2:found 3:giver
abbrev s_least_ring : Stmt := topS 19
theorem sc_least_ring : FnScope ["starts", "member", "ring"] ["starts"] (defScope s_least_ring) := ⟨rfl, rfl, rfl, by decide +kernel, rfl, by decide +kernel, by decide +kernel⟩
-- slots: 0:starts 1:member 2:ring
abbrev s_ring_of : Stmt := topS 21
theorem sc_ring_of : FnScope ["members", "first", "lists"] ["members", "first", "lists"] (defScope s_ring_of) := ⟨rfl, rfl, rfl, by decide +kernel, rfl, by decide +kernel, by decide +kernel⟩
-- slots: 0:members 1:first 2:lists
abbrev s_l_tin : Stmt := topS 23
theorem sc_l_tin : FnScope ["_law_script", "_law_k", "_law_cell"] ["_law_script", "_law_k"] (defScope s_l_tin) := ⟨rfl, rfl, rfl, by decide +kernel, rfl, by decide +kernel, by decide +kernel⟩
-- slots: 0:_law_script 1:_law_k 2:_law_cell
abbrev s_l_pinch : Stmt := topS 24
theorem sc_l_pinch : FnScope ["_law_tin_here", "_law_many", "_law_found", "_law_ground"] ["_law_tin_here", "_law_many"] (defScope s_l_pinch) := ⟨rfl, rfl, rfl, by decide +kernel, rfl, by decide +kernel, by decide +kernel⟩
-- slots: 0:_law_tin_here 1:_law_many 2:_law_found 3:_law_ground
abbrev s_l_crew : Stmt := topS 25
theorem sc_l_crew : FnScope ["_law_tin_here", "_law_most", "_law_names", "_law_k"] ["_law_tin_here", "_law_most"] (defScope s_l_crew) := ⟨rfl, rfl, rfl, by decide +kernel, rfl, by decide +kernel, by decide +kernel⟩
-- slots: 0:_law_tin_here 1:_law_most 2:_law_names 3:_law_k
abbrev s_l_walk : Stmt := topS 26
theorem sc_l_walk : FnScope ["_law_tin_here", "_law_members", "_law_many", "_law_some", "_law_found", "_law_back", "_law_turn", "_law_others", "_law_one"] ["_law_tin_here", "_law_members", "_law_many"] (defScope s_l_walk) := ⟨rfl, rfl, rfl, by decide +kernel, rfl, by decide +kernel, by decide +kernel⟩
-- slots: 0:_law_tin_here 1:_law_members 2:_law_many 3:_law_some 4:_law_found 5:_law_back 6:_law_turn 7:_law_others 8:_law_one
abbrev s_l_lists : Stmt := topS 27
theorem sc_l_lists : FnScope ["_law_members", "_law_history", "_law_found", "_law_giver", "_law_taker", "_law_member"] ["_law_members", "_law_history"] (defScope s_l_lists) := ⟨rfl, rfl, rfl, by decide +kernel, rfl, by decide +kernel, by decide +kernel⟩
-- slots: 0:_law_members 1:_law_history 2:_law_found 3:_law_giver 4:_law_taker 5:_law_member
abbrev s_l_shuffled : Stmt := topS 28
theorem sc_l_shuffled : FnScope ["_law_tin_here", "_law_things", "_law_left", "_law_k"] ["_law_tin_here", "_law_things"] (defScope s_l_shuffled) := ⟨rfl, rfl, rfl, by decide +kernel, rfl, by decide +kernel, by decide +kernel⟩
-- slots: 0:_law_tin_here 1:_law_things 2:_law_left 3:_law_k
abbrev s_l_known : Stmt := topS 29
theorem sc_l_known : FnScope ["_law_tin_here", "_law_members", "_law_lists_here", "_law_found", "_law_member", "_law_many", "_law_some"] ["_law_tin_here", "_law_members", "_law_lists_here"] (defScope s_l_known) := ⟨rfl, rfl, rfl, by decide +kernel, rfl, by decide +kernel, by decide +kernel⟩
-- slots: 0:_law_tin_here 1:_law_members 2:_law_lists_here 3:_law_found 4:_law_member 5:_law_many 6:_law_some
abbrev s_l_any : Stmt := topS 30
theorem sc_l_any : FnScope ["_law_tin_here", "_law_members", "_law_many", "_law_found", "_law_turn", "_law_member", "_law_others", "_law_other"] ["_law_tin_here", "_law_members", "_law_many"] (defScope s_l_any) := ⟨rfl, rfl, rfl, by decide +kernel, rfl, by decide +kernel, by decide +kernel⟩
-- slots: 0:_law_tin_here 1:_law_members 2:_law_many 3:_law_found 4:_law_turn 5:_law_member 6:_law_others 7:_law_other
abbrev s_l_ring : Stmt := topS 31
theorem sc_l_ring : FnScope ["_law_members", "_law_first", "_law_lists_here", "_law_member", "_law_found", "_law_here", "_law_turn"] ["_law_members", "_law_first", "_law_lists_here"] (defScope s_l_ring) := ⟨rfl, rfl, rfl, by decide +kernel, rfl, by decide +kernel, by decide +kernel⟩
-- slots: 0:_law_members 1:_law_first 2:_law_lists_here 3:_law_member 4:_law_found 5:_law_here 6:_law_turn
abbrev s_l_right : Stmt := topS 32
theorem sc_l_right : FnScope ["_law_members", "_law_first", "_law_lists_here", "_law_due", "_law_kept", "_law_again", "_law_told"] ["_law_members", "_law_first", "_law_lists_here"] (defScope s_l_right) := ⟨rfl, rfl, rfl, by decide +kernel, rfl, by decide +kernel, by decide +kernel⟩
-- slots: 0:_law_members 1:_law_first 2:_law_lists_here 3:_law_due 4:_law_kept 5:_law_again 6:_law_told
abbrev s_law : Stmt := topS 33
theorem sc_law : FnScope ["_law_script", "_law_k", "_law_tin_here", "_law_turn", "_law_members", "_law_history", "_law_known_here", "_law_lists_here", "_law_told", "_law_first"] ["_law_script"] (defScope s_law) := ⟨rfl, rfl, rfl, by decide +kernel, rfl, by decide +kernel, by decide +kernel⟩
-- slots: 0:_law_script 1:_law_k 2:_law_tin_here 3:_law_turn 4:_law_members 5:_law_history 6:_law_known_here 7:_law_lists_here 8:_law_told 9:_law_first
/-- what the top has left, by names -/
structure Txt (K : PySem.W.Frag) (mg : Str → Option Value) where
  f_is_name : Addr
  fd_is_name : FuncData
  F_is_name : Fun K "is_name" "is_name" s_is_name f_is_name fd_is_name
  b_is_name : Binds K fd_is_name ["value"] []
  g_is_name : mg "is_name" = some (.ref f_is_name)
  f_is_members : Addr
  fd_is_members : FuncData
  F_is_members : Fun K "is_members" "is_members" s_is_members f_is_members fd_is_members
  b_is_members : Binds K fd_is_members ["value"] []
  g_is_members : mg "is_members" = some (.ref f_is_members)
  f_need_members : Addr
  fd_need_members : FuncData
  F_need_members : Fun K "need_members" "need_members" s_need_members f_need_members fd_need_members
  b_need_members : Binds K fd_need_members ["members"] []
  g_need_members : mg "need_members" = some (.ref f_need_members)
  f_is_member : Addr
  fd_is_member : FuncData
  F_is_member : Fun K "is_member" "is_member" s_is_member f_is_member fd_is_member
  b_is_member : Binds K fd_is_member ["members", "value"] []
  g_is_member : mg "is_member" = some (.ref f_is_member)
  f_need_member : Addr
  fd_need_member : FuncData
  F_need_member : Fun K "need_member" "need_member" s_need_member f_need_member fd_need_member
  b_need_member : Binds K fd_need_member ["members", "value"] []
  g_need_member : mg "need_member" = some (.ref f_need_member)
  f_are_lists_of : Addr
  fd_are_lists_of : FuncData
  F_are_lists_of : Fun K "are_lists_of" "are_lists_of" s_are_lists_of f_are_lists_of fd_are_lists_of
  b_are_lists_of : Binds K fd_are_lists_of ["members", "value"] []
  g_are_lists_of : mg "are_lists_of" = some (.ref f_are_lists_of)
  f_need_lists : Addr
  fd_need_lists : FuncData
  F_need_lists : Fun K "need_lists" "need_lists" s_need_lists f_need_lists fd_need_lists
  b_need_lists : Binds K fd_need_lists ["members", "first", "lists"] []
  g_need_lists : mg "need_lists" = some (.ref f_need_lists)
  f_starts_of : Addr
  fd_starts_of : FuncData
  F_starts_of : Fun K "starts_of" "starts_of" s_starts_of f_starts_of fd_starts_of
  b_starts_of : Binds K fd_starts_of ["members", "first", "lists"] []
  g_starts_of : mg "starts_of" = some (.ref f_starts_of)
  f_ring_at : Addr
  fd_ring_at : FuncData
  F_ring_at : Fun K "ring_at" "ring_at" s_ring_at f_ring_at fd_ring_at
  b_ring_at : Binds K fd_ring_at ["starts", "member"] []
  g_ring_at : mg "ring_at" = some (.ref f_ring_at)
  f_least_ring : Addr
  fd_least_ring : FuncData
  F_least_ring : Fun K "least_ring" "least_ring" s_least_ring f_least_ring fd_least_ring
  b_least_ring : Binds K fd_least_ring ["starts"] []
  g_least_ring : mg "least_ring" = some (.ref f_least_ring)
  f_ring_of : Addr
  fd_ring_of : FuncData
  F_ring_of : Fun K "ring_of" "ring_of" s_ring_of f_ring_of fd_ring_of
  b_ring_of : Binds K fd_ring_of ["members", "first", "lists"] []
  g_ring_of : mg "ring_of" = some (.ref f_ring_of)
  f_l_tin : Addr
  fd_l_tin : FuncData
  F_l_tin : Fun K "_law_tin" "_law_tin" s_l_tin f_l_tin fd_l_tin
  b_l_tin : Binds K fd_l_tin ["_law_script", "_law_k"] []
  g_l_tin : mg "_law_tin" = some (.ref f_l_tin)
  f_l_pinch : Addr
  fd_l_pinch : FuncData
  F_l_pinch : Fun K "_law_pinch" "_law_pinch" s_l_pinch f_l_pinch fd_l_pinch
  b_l_pinch : Binds K fd_l_pinch ["_law_tin_here", "_law_many"] []
  g_l_pinch : mg "_law_pinch" = some (.ref f_l_pinch)
  f_l_crew : Addr
  fd_l_crew : FuncData
  F_l_crew : Fun K "_law_crew" "_law_crew" s_l_crew f_l_crew fd_l_crew
  b_l_crew : Binds K fd_l_crew ["_law_tin_here", "_law_most"] []
  g_l_crew : mg "_law_crew" = some (.ref f_l_crew)
  f_l_walk : Addr
  fd_l_walk : FuncData
  F_l_walk : Fun K "_law_walk" "_law_walk" s_l_walk f_l_walk fd_l_walk
  b_l_walk : Binds K fd_l_walk ["_law_tin_here", "_law_members", "_law_many"] []
  g_l_walk : mg "_law_walk" = some (.ref f_l_walk)
  f_l_lists : Addr
  fd_l_lists : FuncData
  F_l_lists : Fun K "_law_lists" "_law_lists" s_l_lists f_l_lists fd_l_lists
  b_l_lists : Binds K fd_l_lists ["_law_members", "_law_history"] []
  g_l_lists : mg "_law_lists" = some (.ref f_l_lists)
  f_l_shuffled : Addr
  fd_l_shuffled : FuncData
  F_l_shuffled : Fun K "_law_shuffled" "_law_shuffled" s_l_shuffled f_l_shuffled fd_l_shuffled
  b_l_shuffled : Binds K fd_l_shuffled ["_law_tin_here", "_law_things"] []
  g_l_shuffled : mg "_law_shuffled" = some (.ref f_l_shuffled)
  f_l_known : Addr
  fd_l_known : FuncData
  F_l_known : Fun K "_law_known" "_law_known" s_l_known f_l_known fd_l_known
  b_l_known : Binds K fd_l_known ["_law_tin_here", "_law_members", "_law_lists_here"] []
  g_l_known : mg "_law_known" = some (.ref f_l_known)
  f_l_any : Addr
  fd_l_any : FuncData
  F_l_any : Fun K "_law_any" "_law_any" s_l_any f_l_any fd_l_any
  b_l_any : Binds K fd_l_any ["_law_tin_here", "_law_members", "_law_many"] []
  g_l_any : mg "_law_any" = some (.ref f_l_any)
  f_l_ring : Addr
  fd_l_ring : FuncData
  F_l_ring : Fun K "_law_ring" "_law_ring" s_l_ring f_l_ring fd_l_ring
  b_l_ring : Binds K fd_l_ring ["_law_members", "_law_first", "_law_lists_here"] []
  g_l_ring : mg "_law_ring" = some (.ref f_l_ring)
  f_l_right : Addr
  fd_l_right : FuncData
  F_l_right : Fun K "_law_right" "_law_right" s_l_right f_l_right fd_l_right
  b_l_right : Binds K fd_l_right ["_law_members", "_law_first", "_law_lists_here"] []
  g_l_right : mg "_law_right" = some (.ref f_l_right)
  f_law : Addr
  fd_law : FuncData
  F_law : Fun K "law" "law" s_law f_law fd_law
  b_law : Binds K fd_law ["_law_script"] []
  g_law : mg "law" = some (.ref f_law)
  t_LETTERS : Tok
  g_LETTERS : mg "LETTERS" = some (.str "abcdefghijklmnopqrstuvwxyz" t_LETTERS)
  t_MAX_LETTERS : Tok
  g_MAX_LETTERS : mg "MAX_LETTERS" = some (.int 8 t_MAX_LETTERS)
  t_MAX_MEMBERS : Tok
  g_MAX_MEMBERS : mg "MAX_MEMBERS" = some (.int 12 t_MAX_MEMBERS)
  z_abs : mg "abs" = none
  z_all : mg "all" = none
  z_dict : mg "dict" = none
  z_int : mg "int" = none
  z_isinstance : mg "isinstance" = none
  z_len : mg "len" = none
  z_list : mg "list" = none
  z_max : mg "max" = none
  z_min : mg "min" = none
  z_range : mg "range" = none
  z_repr : mg "repr" = none
  z_sorted : mg "sorted" = none
  z_str : mg "str" = none
  z_zip : mg "zip" = none
/-! ### names and members -/
def lettersL : List Nat := ("abcdefghijklmnopqrstuvwxyz" : Str).cps.toList
/-- is_name's answer -/
def nameB (z : Str) : Bool := decide (1 ≤ z.length) && decide (z.length ≤ 8) && z.cps.toList.all fun c => decide (c ∈ lettersL)
def spIsName : Sp := fun vs H Q _ => ∃ z : Str, vs = [.str z] ∧ z.length ≤ 100000 ∧ ∀ H', Same H H' → Q (.bl (nameB z)) H'
section
variable {P : Program} {w : World} {K : PySem.W.Frag} {mg : Str → Option Value} {base : Heap} (T : Txt K mg)
theorem ok_is_name : FnOk P w K mg base CX0 1 T.f_is_name T.fd_is_name ["value"] spIsName := by
  refine T.F_is_name.ok sc_is_name (fun vs H Q E h => ?_) (fun cdv A outer s H vs Q E hr h => ?_)
  · obtain ⟨z, rfl, _⟩ := h
    rfl
  · obtain ⟨z, rfl, hl, q⟩ := h
    refine ⟨_, pss_cons (ps_if (PW.pt (pw_or (pt_not (pt_val (pe_callB call_isi (by rfl) T.z_isinstance (by decide +kernel) (pa_cons (pv 0) (pa_cons (pe_bltn (v := .ty "str") (by rfl) T.z_str (by decide +kernel) rfl) pa_nil)))))
        (pw_or1 (pt_not (pt_chain op_le op_le pe_int (pe_callB call_len (by rfl) T.z_len PySem.boot_len (pa_cons (pv 0) pa_nil)) (pe_glob (v := .int 8) (by rfl) T.g_MAX_LETTERS ⟨_, rfl⟩)))))) (pss_one (ps_ret pe_bl)) pss_nil)
      (pss_one (ps_ret (pe_callB (cr_all rfl) (by rfl) T.z_all (by decide +kernel) (pa_cons
        (pe_lc (own := [("letter", 1)]) (g := gName 1) (tt := tYes) rfl sc_is_name.nd (pi_str (pv 0)) (blkOk_by (N := ["value", "letter"]) (sc := defScope s_is_name) (by decide +kernel)) (fun _ _ _ _ _ => pg_name (i := 1) sc_is_name.nd rfl (.inl rfl)) (fun _ _ _ _ _ => pts_nil)
          (fun _ _ _ _ _ => pe_cmpR op_in_sign (pv 1) (pe_glob (v := .str "abcdefghijklmnopqrstuvwxyz") (by rfl) T.g_LETTERS ⟨_, rfl⟩) rfl)) pa_nil)))), ?_⟩
    refine ⟨_, rfl, .str z, .ty "str", .type "str", .type "str", true, rfl, .ty _, .base (.str z), kit_ty (by decide +kernel), true, rfl, iteF ?_⟩
    refine ⟨_, rfl, .str z, z.length, rfl, ⟨szl hl, rfl⟩, 1, z.length, rfl, rfl, decide ((1 : Int) ≤ z.length), rfl, ?_⟩
    refine ite2 (fun h1 => ?_) (fun h1 => ?_)
    · refine ⟨z.length, 8, rfl, rfl, _, rfl, ?_⟩
      by_cases h2 : (z.length : Int) ≤ 8
      · rw [decide_eq_true h2]
        refine iteF ?_
        -- the comprehension
        refine ⟨.str z, rfl, z, rfl, fun D nD => lc_it walk_str (fun i H1 => Same H H1 ∧ H1 D = some (.lst ((z.cps.toList.take i).map fun c => .bl (decide (c ∈ lettersL)))))
          ⟨same_new nD, by rw [upd_same]; rfl⟩ (fun _ _ _ _ => True.intro) ?_ ?_⟩
        · rintro i x H1 H2 hi ⟨s1, e1⟩ ⟨rfl, c, hc, rfl⟩
          refine ⟨rfl, .str ⟨#[c]⟩, rfl, c, _, rfl, rfl, _, e1, ?_, ?_⟩
          · rw [List.length_map, List.length_take]
            exact sz (Nat.le_trans (Nat.min_le_right _ _) (by rw [Array.length_toList]; exact hl))
          · refine ⟨same_mut s1 nD, ?_⟩
            have hc' : z.cps.toList[i]? = some c := by simpa using hc
            rw [upd_same, List.take_add_one, hc', List.map_append]
            rfl
        · rintro H1 ⟨s1, e1⟩
          refine ⟨D, z.cps.toList.map fun c => decide (c ∈ lettersL), rfl, sqL ?_, ?_⟩
          · rw [e1, List.map_map, List.take_of_length_le (by simp)]
            rfl
          · have e : nameB z = (z.cps.toList.map fun c => decide (c ∈ lettersL)).all id := by
              unfold nameB
              rw [decide_eq_true (show 1 ≤ z.length by have := of_decide_eq_true h1; omega), decide_eq_true (by omega), List.all_map]
              rfl
            rw [← e]
            exact q _ s1
      · rw [decide_eq_false h2]
        refine iteT ?_
        have e : nameB z = false := by
          unfold nameB
          rw [decide_eq_false (show ¬ z.length ≤ 8 by omega)]
          simp
        show Q (.bl false) H
        rw [← e]
        exact q _ (Same.refl _)
    · refine ⟨false, rfl, iteT ?_⟩
      have e : nameB z = false := by
        unfold nameB
        rw [decide_eq_false (show ¬ 1 ≤ z.length from fun z1 => h1 (decide_eq_true (by omega)))]
        simp
      show Q (.bl false) H
      rw [← e]
      exact q _ (Same.refl _)
end
/-! ### members -/
structure Members (ms : List Str) : Prop where
  lo : 1 ≤ ms.length
  hi : ms.length ≤ 12
  nm : ∀ m ∈ ms, nameB m = true
  asc : ∀ (i : Nat) (x y : Str), ms[i]? = some x → ms[i + 1]? = some y → x.cps.toList < y.cps.toList
  nd : ms.Nodup
theorem nameB_len {z : Str} (h : nameB z = true) : z.length ≤ 8 := by
  unfold nameB at h
  simp only [Bool.and_eq_true, decide_eq_true_eq] at h
  exact h.1.2
theorem letters_small : ∀ c ∈ lettersL, c < 1114112 := by decide +kernel
theorem nameB_ok {z : Str} (h : nameB z = true) : PyData.strOk z = true := by
  unfold nameB at h
  simp only [Bool.and_eq_true, decide_eq_true_eq] at h
  unfold PyData.strOk
  rw [← Array.all_toList]
  refine List.all_eq_true.mpr fun c hc => decide_eq_true ?_
  exact letters_small c (of_decide_eq_true (List.all_eq_true.mp h.2 c hc))
def spIsMembers : Sp := fun vs H Q _ => ∃ (a : Addr) (ms : List Str), vs = [.ref a] ∧ H a = some (.lst (sv ms)) ∧ Members ms ∧ ∀ H', Same H H' → Q (.bl true) H'
def spNeedMembers : Sp := fun vs H Q _ => ∃ (a : Addr) (ms : List Str), vs = [.ref a] ∧ H a = some (.lst (sv ms)) ∧ Members ms ∧ ∀ H', Same H H' → Q .non H'
section
variable {P : Program} {w : World} {K : PySem.W.Frag} {mg : Str → Option Value} {base : Heap} (T : Txt K mg)
theorem cut1 (xs : List V) : cutV xs (some 1) none = xs.drop 1 := by
  have h := HT.sIx_nat xs.length 0 1
  unfold cutV
  rw [show HT.sIx xs.length 0 (some 1) = min 1 xs.length from h, HT.sIx_none]
  cases xs with
  | nil => rfl
  | cons x r =>
    have e : min 1 (x :: r).length = 1 := by simp
    rw [e, List.take_of_length_le (by simp)]
theorem sv_drop (l : List Str) (n : Nat) : (sv l).drop n = sv (l.drop n) := List.map_drop.symm
theorem rep_snoc (i : Nat) : List.replicate (i + 1) (V.bl true) = List.replicate i (V.bl true) ++ [V.bl true] := List.replicate_succ'
theorem rep_bl (n : Nat) : List.replicate n (V.bl true) = (List.replicate n true).map V.bl := by simp
theorem ok_is_members : FnOk P w K mg base CX0 2 T.f_is_members T.fd_is_members ["value"] spIsMembers := by
  have G1 : FnOk P w K mg base CX0 1 T.f_is_name T.fd_is_name ["value"] spIsName := ok_is_name T
  refine T.F_is_members.ok sc_is_members (fun vs H Q E h => ?_) (fun cdv A outer s H vs Q E hr h => ?_)
  · obtain ⟨a, ms, rfl, _⟩ := h
    rfl
  · obtain ⟨a, ms, rfl, ha, M, q⟩ := h
    refine ⟨_, pss_cons (ps_if (PW.pt (pw_or (pt_not (pt_val (pe_callB call_isi (by rfl) T.z_isinstance (by decide +kernel) (pa_cons (pv 0) (pa_cons (pe_bltn (v := .ty "list") (by rfl) T.z_list (by decide +kernel) rfl) pa_nil)))))
        (pw_or1 (pt_not (pt_chain op_le op_le pe_int (pe_callB call_len (by rfl) T.z_len PySem.boot_len (pa_cons (pv 0) pa_nil)) (pe_glob (v := .int 12) (by rfl) T.g_MAX_MEMBERS ⟨_, rfl⟩)))))) (pss_one (ps_ret pe_bl)) pss_nil)
      (pss_cons (ps_if (pt_not (pt_val (pe_callB (cr_all rfl) (by rfl) T.z_all (by decide +kernel) (pa_cons
        (pe_lc (own := [("member", 1)]) (g := gName 1) (tt := tYes) rfl sc_is_members.nd (pi_list (pv 0)) (blkOk_by (N := ["value", "member", "one", "other"]) (sc := defScope s_is_members) (by decide +kernel)) (fun _ _ _ _ _ => pg_name (i := 1) sc_is_members.nd rfl (.inl rfl)) (fun _ _ _ _ _ => pts_nil)
          (fun _ _ _ _ _ => pe_call G1 hr (by rfl) T.g_is_name T.F_is_name.kp T.b_is_name .nil pass0 (pa_cons (pv 1) pa_nil))) pa_nil)))) (pss_one (ps_ret pe_bl)) pss_nil)
      (pss_one (ps_ret (pe_callB (cr_all rfl) (by rfl) T.z_all (by decide +kernel) (pa_cons
        (pe_lc (own := [("one", 2), ("other", 3)]) (g := gTup K 2 (gCons (gName 2) (gCons (gName 3) gNil))) (tt := tYes) rfl sc_is_members.nd (pi_zip (by rfl) T.z_zip (pa_cons (pv 0) (pa_cons (pe_slice sl_list (pv 0) (po_some pe_int) po_none) pa_nil)))
          (blkOk_by (N := ["value", "member", "one", "other"]) (sc := defScope s_is_members) (by decide +kernel))
          (fun _ _ _ _ _ => pg_tup rfl (pgs_cons (pg_name (i := 2) sc_is_members.nd rfl (.inl rfl)) (pgs_cons (pg_name (i := 3) sc_is_members.nd rfl (.inl rfl)) pgs_nil))) (fun _ _ _ _ _ => pts_nil)
          (fun _ _ _ _ _ => pe_cmpR op_lt_str (pv 2) (pv 3) (nomark _))) pa_nil))))), ?_⟩
    -- the first test
    refine ⟨_, rfl, .ref a, .ty "list", .type "list", .type "list", true, rfl, .ty _, .base (.lst ha), kit_ty (by decide +kernel), true, rfl, iteF ?_⟩
    refine ⟨_, rfl, .ref a, ms.length, rfl, .inl ⟨_, sqL ha, (List.length_map _).symm⟩, 1, ms.length, rfl, rfl, decide ((1 : Int) ≤ ms.length), rfl, ?_⟩
    have lo := M.lo
    have hi := M.hi
    rw [decide_eq_true (show (1 : Int) ≤ ms.length by omega)]
    refine iteT ⟨ms.length, 12, rfl, rfl, decide ((ms.length : Int) ≤ 12), rfl, ?_⟩
    rw [decide_eq_true (show (ms.length : Int) ≤ 12 by omega)]
    refine iteF ?_
    -- all the names
    refine ⟨_, rfl, a, rfl, ⟨_, sqL ha⟩, fun D nD => lc_it (walk_sv ms) (fun i H1 => Same H H1 ∧ H1 D = some (.lst (List.replicate i (.bl true))))
      ⟨same_new nD, by rw [upd_same]; rfl⟩ (fun i H1 _ p => p.1.seq (sqL ha)) ?_ ?_⟩
    · rintro i x H1 H2 hi ⟨s1, e1⟩ ⟨rfl, m, hm, rfl⟩
      have mm := List.mem_of_getElem? hm
      have hn := M.nm m mm
      refine ⟨rfl, .str m, rfl, m, rfl, Nat.le_trans (nameB_len hn) (by decide), fun H3 s3 => ⟨_, s3 _ _ e1, ?_, same_mut (s1.trans s3) nD, ?_⟩⟩
      · rw [List.length_replicate]
        exact sz (by omega)
      · rw [upd_same, hn, rep_snoc]
    · rintro H1 ⟨s1, e1⟩
      refine ⟨D, List.replicate ms.length true, rfl, sqL (by rw [e1]; simp), _, rfl, ?_⟩
      rw [show (List.replicate ms.length true).all id = true by simp]
      refine iteF ?_
      -- all in ascending order
      refine ⟨.ref a, rfl, .ref a, rfl, 1, rfl, a, sv ms, rfl, sqL (s1 _ _ ha), fun c nc => ?_⟩
      refine ⟨a, c, sv ms, cutV (sv ms) (some 1) none, rfl, sqL (same_new nc _ _ (s1 _ _ ha)), sqL upd_same, fun D2 nD2 => ?_⟩
      have nc2 : c ≠ D2 := fun z => by subst z; rw [upd_same] at nD2; cases nD2
      have s2 : Same H1 (upd H1 c (.lst (cutV (sv ms) (some 1) none))) := same_new nc
      refine lc_it (walk_zip (n := ms.length - 1) (xs := sv ms) (ys := sv (ms.drop 1)) (by simp)) (fun i H2 => Same H1 H2 ∧ H2 c = some (.lst (sv (ms.drop 1))) ∧ H2 D2 = some (.lst (List.replicate i (.bl true))))
        ⟨s2.trans (same_new nD2), ?_, by rw [upd_same]; rfl⟩ (fun i H2 _ p => ⟨sqL (p.1 _ _ (s1 _ _ ha)), sqL p.2.1⟩) ?_ ?_
      · rw [upd_ne nc2, upd_same, cut1, sv_drop]
      · rintro i x H2 H3 hi ⟨s3, ec, e2⟩ ⟨Tp, x1, x2, rfl, nT, rfl, f1, f2⟩
        obtain ⟨m1, g1, rfl⟩ := sv_get' f1
        obtain ⟨m2, g2, rfl⟩ := sv_get' f2
        have lt := M.asc i m1 m2 g1 (by rw [List.getElem?_drop, Nat.add_comm] at g2; exact g2)
        have nT2 : D2 ≠ Tp := ne_of_none e2 nT
        refine ⟨Tp, _, rfl, sqT upd_same, rfl, .str m1, [.str m2], rfl, .str m2, [], rfl, rfl, rfl, .str m1, rfl, .str m2, rfl, m1, m2, rfl, rfl, List.replicate i (.bl true), ?_, ?_, ?_, ?_, ?_⟩
        · rw [upd_ne nT2]
          exact e2
        · rw [List.length_replicate]
          exact sz (by omega)
        · exact same_mut (s3.trans (same_new nT)) (s2.free nD2)
        · rw [upd_ne nc2, upd_ne (ne_of_none ec nT)]
          exact ec
        · rw [upd_same, decide_eq_true lt, rep_snoc]
      · rintro H2 ⟨s3, ec, e2⟩
        refine ⟨D2, List.replicate (ms.length - 1) true, rfl, sqL (by rw [e2]; simp), ?_⟩
        rw [show (List.replicate (ms.length - 1) true).all id = true by simp]
        exact q _ (s1.trans s3)
theorem ok_need_members : FnOk P w K mg base CX0 3 T.f_need_members T.fd_need_members ["members"] spNeedMembers := by
  have G1 : FnOk P w K mg base CX0 2 T.f_is_members T.fd_is_members ["value"] spIsMembers := ok_is_members T
  refine T.F_need_members.ok sc_need_members (fun vs H Q E h => ?_) (fun cdv A outer s H vs Q E hr h => ?_)
  · obtain ⟨a, ms, rfl, _⟩ := h
    rfl
  · obtain ⟨a, ms, rfl, ha, M, q⟩ := h
    refine ⟨_, pss_one (ps_if (pt_not (pt_val (pe_call G1 hr (by rfl) T.g_is_members T.F_is_members.kp T.b_is_members .nil pass0 (pa_cons (pv 0) pa_nil)))) pss_never pss_nil), ?_⟩
    exact ⟨_, rfl, a, ms, rfl, ha, M, fun H' s' => ⟨true, rfl, iteF (q H' s')⟩⟩
end
/-! ### plain laws and rules (as in k44) -/
theorem getLast_at {h : List Str} {y : Str} (e : h.getLast? = some y) : atI (sv h) (-1) = some (.str y) := by
  obtain ⟨l, rfl⟩ : ∃ l, h = l ++ [y] := by
    cases h with
    | nil => cases e
    | cons a r =>
      refine ⟨(a :: r).dropLast, ?_⟩
      rw [List.getLast?_eq_getLast (List.cons_ne_nil _ _)] at e
      rw [← Option.some.inj e, List.dropLast_concat_getLast]
  have e2 : sv (l ++ [y]) = sv l ++ [V.str y] := by simp
  rw [e2]
  exact atI_last _ _
theorem natAbs_lt {x : Int} {n : Nat} (h0 : 0 ≤ x) (h : x < n) : x.natAbs < n := by omega
theorem ltCps_of : ∀ a b : List Nat, ltCps b a = false → a ≠ b → ltCps a b = true
  | [], [], _, n => absurd rfl n
  | [], _ :: _, _, _ => rfl
  | _ :: _, [], h, _ => by simp [ltCps] at h
  | x :: r, y :: t, h, n => by
    simp only [ltCps, Bool.or_eq_false_iff, Bool.and_eq_false_iff, decide_eq_false_iff_not, beq_eq_false_iff_ne] at h
    simp only [ltCps, Bool.or_eq_true, Bool.and_eq_true, decide_eq_true_eq, beq_iff_eq]
    obtain ⟨h1, h2⟩ := h
    by_cases e : x = y
    · subst e
      refine .inr ⟨rfl, ltCps_of r t (h2.resolve_left fun z => z rfl) fun z => n (by rw [z])⟩
    · exact .inl (by omega)
theorem str_ext {x y : Str} (h : x.cps.toList = y.cps.toList) : x = y := by
  obtain ⟨⟨a⟩⟩ := x
  obtain ⟨⟨b⟩⟩ := y
  simp at h
  rw [h]
theorem rising_asc : ∀ (p : Str) (l : List Str), risingS p l = true → (p :: l).Nodup → ∀ (i : Nat) (x y : Str), (p :: l)[i]? = some x → (p :: l)[i + 1]? = some y → x.cps.toList < y.cps.toList
  | p, [], _, _, i, x, y, _, h2 => by simp at h2
  | p, a :: r, h, nd, 0, x, y, h1, h2 => by
    have e1 : p = x := Option.some.inj h1
    have e2 : a = y := Option.some.inj h2
    subst e1 e2
    have h : (!ltCps a.cps.toList p.cps.toList && risingS a r) = true := h
    rw [Bool.and_eq_true, Bool.not_eq_true'] at h
    have n : p ≠ a := by
      have := (List.nodup_cons.mp nd).1
      exact fun z => this (z ▸ List.mem_cons_self)
    have := ltCps_of _ _ h.1 fun z => n (str_ext z)
    rw [PyProof.Rows.ltCps_eq] at this
    exact of_decide_eq_true this
  | p, a :: r, h, nd, i + 1, x, y, h1, h2 => by
    have h : (!ltCps a.cps.toList p.cps.toList && risingS a r) = true := h
    rw [Bool.and_eq_true] at h
    exact rising_asc a r h.2 (List.nodup_cons.mp nd).2 i x y h1 h2
theorem sorted_asc {l : List Str} (h : sortedS l = true) (nd : l.Nodup) : ∀ (i : Nat) (x y : Str), l[i]? = some x → l[i + 1]? = some y → x.cps.toList < y.cps.toList := by
  cases l with
  | nil => intro i x y h1; simp at h1
  | cons p r => exact rising_asc p r h nd
theorem cut_to (xs : List V) (j : Nat) : cutV xs none (some (j : Int)) = xs.take j := by
  have h := HT.sIx_nat xs.length xs.length j
  unfold cutV
  rw [HT.sIx_none, h]
  simp [List.take_eq_take_iff]
/-! ### histories, lists of the law -/
structure Hist (ms h : List Str) : Prop where
  ne : h ≠ []
  mem : ∀ x ∈ h, x ∈ ms
  adj : ∀ (i : Nat) (x y : Str), h[i]? = some x → h[i + 1]? = some y → x ≠ y
theorem Hist.one {ms : List Str} {p : Str} (h : p ∈ ms) : Hist ms [p] := ⟨by simp, fun x hx => by rw [List.mem_singleton.mp hx]; exact h, fun i x y _ h2 => by simp at h2⟩
theorem Hist.snoc {ms h : List Str} {y m : Str} (g : Hist ms h) (hy : h.getLast? = some y) (hm : m ∈ ms) (n : m ≠ y) : Hist ms (h ++ [m]) := by
  refine ⟨by simp, fun x hx => ?_, fun i a b h1 h2 => ?_⟩
  · rcases List.mem_append.mp hx with hx | hx
    · exact g.mem x hx
    · rw [List.mem_singleton.mp hx]; exact hm
  · have hl : i + 1 < (h ++ [m]).length := (List.getElem?_eq_some_iff.mp h2).1
    rw [List.length_append, List.length_singleton] at hl
    by_cases e : i + 1 < h.length
    · rw [List.getElem?_append_left (by omega)] at h1
      rw [List.getElem?_append_left e] at h2
      exact g.adj i a b h1 h2
    · have e1 : i = h.length - 1 := by omega
      have e2 : i + 1 = h.length := by omega
      rw [List.getElem?_append_left (by omega), e1, ← List.getLast?_eq_getElem?, hy] at h1
      rw [e2, List.getElem?_append_right (Nat.le_refl _), Nat.sub_self] at h2
      cases h1
      cases h2
      exact Ne.symm n
theorem givers_ne {m x : Str} : ∀ {h : List Str}, (∀ (i : Nat) (a b : Str), h[i]? = some a → h[i + 1]? = some b → a ≠ b) → x ∈ givers m h → x ≠ m
  | [], _, k => by simp [givers] at k
  | [_], _, k => by simp [givers] at k
  | a :: b :: r, d, k => by
    have k : x ∈ (if b = m then a :: givers m (b :: r) else givers m (b :: r)) := k
    have d' : ∀ (i : Nat) (u v : Str), (b :: r)[i]? = some u → (b :: r)[i + 1]? = some v → u ≠ v := fun i u v h1 h2 => d (i + 1) u v h1 h2
    by_cases e : b = m
    · rw [if_pos e] at k
      rcases List.mem_cons.mp k with z | z
      · subst z e
        exact d 0 x b rfl rfl
      · exact givers_ne d' z
    · rw [if_neg e] at k
      exact givers_ne d' k
/-- dict(pairs) -/
def rDictP (K : PySem.W.Frag) : List V → Hp → VK → Prop := fun xs H Q => ∃ (a : Addr) (ps : List Addr) (kvs : List (Key × V)), xs = [.ref a] ∧
  SqL K H a (ps.map V.ref) ∧ Paired (fun p kv => SqT K H p [kV kv.1, kv.2]) ps kvs ∧
  ∀ p, H p = none → Q (.ref p) (upd H p (.dK (mergeK [] kvs)))
theorem call_dictK {X : Cx} (hc : X.calm = true) : CallR X (.type "dict") (rDictP X.K) := call_dictP hc
theorem merge_mkd (v : Str → V) : ∀ (ys xs : List Str), (xs ++ ys).Nodup → mergeK (mkd xs v) (mkd ys v) = mkd (xs ++ ys) v
  | [], xs, _ => by rw [List.append_nil]; rfl
  | y :: r, xs, nd => by
    have h : y ∉ xs := fun m => by
      have := List.nodup_append.mp nd
      exact this.2.2 y m y List.mem_cons_self rfl
    have e : xs ++ y :: r = (xs ++ [y]) ++ r := by simp
    rw [e] at nd ⊢
    have ih := merge_mkd v r (xs ++ [y]) nd
    show mergeK (putK (mkd xs v) (Sum.inr y) (v y)) (mkd r v) = _
    rw [mkd_snoc (v' := v) h (fun _ _ => rfl) rfl]
    exact ih
theorem wipe1 (σ : L2.St) (j : Nat) (v : Option V) : wipe ((wipe σ [j]).set j v) [j] = wipe σ [j] := by
  show (((σ.set j none).set j v).set j none) = σ.set j none
  simp
/-- dict([(m, []) for m in ms]) -/
theorem dict_lists {K : PySem.W.Frag} {σ : L2.St} {H : Hp} {Q : VK} {i j : Nat} {a : Addr} {ms : List Str} (hi : σ[i]? = some (some (.ref a))) (hj : j < σ.length) (ha : H a = some (.lst (sv ms))) (nd : ms.Nodup) (hl : ms.length ≤ 1000)
    (q : ∀ H' d ad, Same H H' → DN H H' d ms ad (fun _ => []) → Q (.ref d) H') :
    tCB (rDictP K) (tCons (tLc (iList K (tVar i)) (gName j) tYes (tTup (tCons (tVar j) (tCons (tLst tNil) tNil))) [j]) tNil) σ H Q := by
  refine ⟨.ref a, hi, a, rfl, ⟨_, sqL ha⟩, fun D nD => lc_it (walk_sv ms) (fun i H1 => Same H H1 ∧ ∃ (ps : List Addr) (ad : Str → Addr), H1 D = some (.lst (ps.map V.ref)) ∧ Paired (fun p m => H1 p = some (.tup [.str m, .ref (ad m)])) ps (ms.take i) ∧
      (∀ m ∈ ms.take i, H1 (ad m) = some (.lst []) ∧ H (ad m) = none ∧ ad m ≠ D) ∧ (∀ x ∈ ms.take i, ∀ y ∈ ms.take i, ad x = ad y → x = y)) ?_ (fun i H1 _ p => sqL (p.1 _ _ ha)) ?_ ?_⟩
  · exact ⟨same_new nD, [], fun _ => D, upd_same, .nil, fun _ z => (by cases z), fun _ z => (by cases z)⟩
  · rintro t x H0 H1 ht ⟨s1, ps, ad, eD, pr, hn, inj⟩ ⟨rfl, m, hm, rfl⟩
    have mno := not_take nd hm
    have mne : ∀ y ∈ ms.take t, y ≠ m := fun y hy z => mno (by rw [← z]; exact hy)
    have pl : ps.length = t := by rw [pr.length, List.length_take]; omega
    refine ⟨wipe1 _ _ _, .str m, by simp [wipe, List.getElem?_set, hj], Nat.zero_le _, fun l nl => ?_⟩
    refine ⟨(by show 2 ≤ sizeLine; decide), fun o no => ⟨ps.map V.ref, ?_, ?_, ?_, ps ++ [o], pad ad m l, ?_, ?_, ?_, ?_⟩⟩
    · rw [upd_ne (ne_of_none (same_new nl _ _ eD) no), upd_ne (ne_of_none eD nl)]
      exact eD
    · rw [List.length_map, pl]
      exact sz (by omega)
    · exact same_mut ((s1.trans (same_new nl)).trans (same_new no)) nD
    · rw [upd_same, List.map_append]; rfl
    · -- the pairs
      have nlo : l ≠ o := fun z => by subst z; rw [upd_same] at no; cases no
      have noD : o ≠ D := fun z => by
        subst z
        rw [upd_ne (ne_of_none eD nl), eD] at no
        cases no
      rw [take_snoc hm]
      refine Paired.snoc ?_ ?_
      · have hadd : ∀ x ∈ ms.take t, pad ad m l x = ad x := fun x hx => pad_ne (mne x hx)
        have st : ∀ b w, H1 b = some w → b ≠ D → (upd (upd (upd H1 l (.lst [])) o (.tup [.str m, .ref l])) D (.lst (ps.map V.ref ++ [.ref o]))) b = some w := fun b w e n => by
          rw [upd_ne n, upd_ne (ne_of_none (same_new nl _ _ e) no), upd_ne (ne_of_none e nl)]
          exact e
        have st2 : ∀ b w, H1 b = some (.tup w) → (upd (upd (upd H1 l (.lst [])) o (.tup [.str m, .ref l])) D (.lst (ps.map V.ref ++ [.ref o]))) b = some (.tup w) := fun b w e => st b _ e (ne_of e eD (fun z => by cases z))
        generalize upd (upd (upd H1 l (.lst [])) o (.tup [.str m, .ref l])) D (.lst (ps.map V.ref ++ [.ref o])) = H9 at st2
        clear hn inj pl st eD mne mno
        generalize ms.take t = zs at pr hadd
        induction pr with
        | nil => exact .nil
        | cons h0 _ ih =>
          refine .cons ?_ (ih fun x hx => hadd x (List.mem_cons_of_mem _ hx))
          rw [hadd _ List.mem_cons_self]
          exact st2 _ _ h0
      · show (upd (upd (upd H1 l (.lst [])) o (.tup [.str m, .ref l])) D (.lst (ps.map V.ref ++ [.ref o]))) o = some (.tup [.str m, .ref (pad ad m l m)])
        rw [upd_ne noD, upd_same, pad_same]
    · intro y hy
      rw [take_snoc hm] at hy
      have nlo : l ≠ o := fun z => by subst z; rw [upd_same] at no; cases no
      have nlD : l ≠ D := Ne.symm (ne_of_none eD nl)
      rcases List.mem_append.mp hy with hy | hy
      · obtain ⟨h1, h2, h3⟩ := hn y hy
        rw [pad_ne (mne y hy)]
        refine ⟨?_, h2, h3⟩
        rw [upd_ne h3, upd_ne (ne_of_none (same_new nl _ _ h1) no), upd_ne (ne_of_none h1 nl)]
        exact h1
      · cases List.mem_singleton.mp hy
        rw [pad_same]
        refine ⟨?_, s1.free nl, nlD⟩
        rw [upd_ne nlD, upd_ne nlo, upd_same]
    · intro u hu v hv e
      rw [take_snoc hm] at hu hv
      rcases List.mem_append.mp hu with hu | hu <;> rcases List.mem_append.mp hv with hv | hv
      · rw [pad_ne (mne u hu), pad_ne (mne v hv)] at e
        exact inj u hu v hv e
      · cases List.mem_singleton.mp hv
        rw [pad_ne (mne u hu), pad_same] at e
        have := (hn u hu).1
        rw [e, nl] at this
        cases this
      · cases List.mem_singleton.mp hu
        rw [pad_ne (mne v hv), pad_same] at e
        have := (hn v hv).1
        rw [← e, nl] at this
        cases this
      · rw [List.mem_singleton.mp hu, List.mem_singleton.mp hv]
  · rintro H1 ⟨s1, ps, ad, eD, pr, hn, inj⟩
    rw [List.take_of_length_le (Nat.le_refl _)] at pr hn inj
    refine ⟨D, ps, mkv ms ad, rfl, sqL eD, ?_, fun d nd' => ?_⟩
    · clear hn inj q hl nd ha eD
      induction pr with
      | nil => exact .nil
      | cons h0 _ ih => exact .cons (sqT h0) ih
    · have em : mergeK [] (mkv ms ad) = mkv ms ad := merge_mkd _ ms [] (by simpa using nd)
      rw [em]
      exact q _ d ad (s1.trans (same_new nd')) ⟨⟨upd_same, fun m hm => by rw [upd_ne (ne_of_none (hn m hm).1 nd')]; exact (hn m hm).1⟩, s1.free nd', fun m hm => (hn m hm).2.1, inj⟩
theorem keep_mut {W : List Addr} {H H1 : Hp} {p : Addr} {o : HO} (k : Keep W H H1) (h : H p = none) : Keep W H (upd H1 p o) := fun b u e n => by
  rw [upd_ne (ne_of_none e h)]
  exact k b u e n
/-- the members but one -/
def oth (ms : List Str) (y : Str) : List Str := ms.filter fun m => !decide (m = y)
theorem mem_oth {ms : List Str} {y x : Str} : x ∈ oth ms y ↔ x ∈ ms ∧ x ≠ y := by simp [oth]
theorem oth_two {ms : List Str} {y : Str} (nd : ms.Nodup) (h : 2 ≤ ms.length) : oth ms y ≠ [] := fun e => by
  have all : ∀ x ∈ ms, x = y := fun x hx => Decidable.byContradiction fun n => by
    have := mem_oth.mpr ⟨hx, n⟩
    rw [e] at this
    cases this
  cases ms with
  | nil => simp at h
  | cons a r =>
    cases r with
    | nil => simp at h
    | cons b r =>
      have e1 := all a (by simp)
      have e2 := all b (by simp)
      subst e1
      subst e2
      simp at nd
theorem last2 {ms h : List Str} {y : Str} (g : Hist ms h) (hy : h.getLast? = some y) (h2 : 1 < h.length) : ∃ x, atI (sv h) (-2) = some (.str x) ∧ x ∈ oth ms y := by
  have hx : h[h.length - 2]? = some (h[h.length - 2]'(by omega)) := List.getElem?_eq_getElem (by omega)
  have hy' : h[h.length - 2 + 1]? = some y := by
    rw [show h.length - 2 + 1 = h.length - 1 by omega, ← List.getLast?_eq_getElem?]
    exact hy
  refine ⟨h[h.length - 2]'(by omega), ?_, mem_oth.mpr ⟨g.mem _ (List.getElem_mem _), g.adj _ _ _ hx hy'⟩⟩
  unfold atI
  have e : ixN (sv h).length (-2) = some (h.length - 2) := by
    unfold ixN
    rw [List.length_map, if_neg (by decide), if_pos (by omega)]
    congr 1
    omega
  rw [e]
  exact sv_get hx
/-- a draw from a list of names -/
theorem mem_sv {l : List Str} {v : V} (h : v ∈ sv l) : ∃ x ∈ l, v = .str x := by
  obtain ⟨x, hx, e⟩ := List.mem_map.mp h
  exact ⟨x, hx, e.symm⟩
/-- a statement by what its value may be -/
theorem asg_val {te : TE} {g : TG} {D : Ends} {σ : L2.St} {H : Hp} (good : V → Hp → Prop) (h : ∀ Q : VK, (∀ v H', good v H' → Q v H') → te σ H Q) (k : ∀ v H', good v H' → g v σ H' D.nx) : tAsg te g D σ H := h _ k
theorem oth_pick {ms : List Str} {y : Str} {v1 v2 : V} {r : Int} (h1 : v1 ∈ sv (oth ms y)) (h2 : v2 ∈ sv (oth ms y)) (r0 : 0 ≤ r) (r2 : r < 2) : ∃ v, atI [v1, v2] r = some v ∧ v ∈ sv (oth ms y) := by
  rcases (by omega : r = 0 ∨ r = 1) with rfl | rfl
  · exact ⟨v1, rfl, h1⟩
  · exact ⟨v2, rfl, h2⟩
theorem oth_pick4 {ms : List Str} {y : Str} {v1 v2 v3 v4 : V} {r : Int} (h1 : v1 ∈ sv (oth ms y)) (h2 : v2 ∈ sv (oth ms y)) (h3 : v3 ∈ sv (oth ms y)) (h4 : v4 ∈ sv (oth ms y)) (r0 : 0 ≤ r) (r2 : r < 4) : ∃ v, atI [v1, v2, v3, v4] r = some v ∧ v ∈ sv (oth ms y) := by
  rcases (by omega : r = 0 ∨ r = 1 ∨ r = 2 ∨ r = 3) with rfl | rfl | rfl | rfl
  · exact ⟨v1, rfl, h1⟩
  · exact ⟨v2, rfl, h2⟩
  · exact ⟨v3, rfl, h3⟩
  · exact ⟨v4, rfl, h4⟩
theorem idx_at {ms : List Str} (nd : ms.Nodup) {y : Str} (h : y ∈ ms) : ∃ j : Nat, (sv ms)[j]? = some (.str y) ∧ eqV (.str y) (.str y) = true ∧ ∀ (m : Nat) (z : V), m < j → (sv ms)[m]? = some z → eqV z (.str y) = false := by
  obtain ⟨j, hj, e⟩ := List.getElem_of_mem h
  refine ⟨j, sv_get (by rw [List.getElem?_eq_getElem hj, e]), by rw [eqV_str]; simp, fun m z hm hz => ?_⟩
  obtain ⟨x, hx, rfl⟩ := sv_get' hz
  rw [eqV_str]
  refine decide_eq_false fun k => ?_
  subst k
  have := nd_ix nd hx (show ms[j]? = some x by rw [List.getElem?_eq_getElem hj, e])
  omega
/-- dict([(m, e) for m in ms]), e a plain value -/
theorem dict_vals {K : PySem.W.Frag} {σ : L2.St} {H : Hp} {Q : VK} {te : TE} {i j : Nat} {a : Addr} {ms : List Str} (v : Str → V) (hi : σ[i]? = some (some (.ref a))) (hj : j < σ.length) (ha : H a = some (.lst (sv ms))) (nd : ms.Nodup) (hl : ms.length ≤ 1000)
    (hte : ∀ (m : Str) (H1 : Hp) (Q : VK), m ∈ ms → Same H H1 → Q (v m) H1 → te ((wipe σ [j]).set j (some (.str m))) H1 Q)
    (q : ∀ H' d, Same H H' → H' d = some (.dK (mkd ms v)) → H d = none → Q (.ref d) H') :
    tCB (rDictP K) (tCons (tLc (iList K (tVar i)) (gName j) tYes (tTup (tCons (tVar j) (tCons te tNil))) [j]) tNil) σ H Q := by
  refine ⟨.ref a, hi, a, rfl, ⟨_, sqL ha⟩, fun D nD => lc_it (walk_sv ms) (fun i H1 => Same H H1 ∧ ∃ (ps : List Addr), H1 D = some (.lst (ps.map V.ref)) ∧ Paired (fun p m => H1 p = some (.tup [.str m, v m])) ps (ms.take i)) ?_ (fun i H1 _ p => sqL (p.1 _ _ ha)) ?_ ?_⟩
  · exact ⟨same_new nD, [], upd_same, .nil⟩
  · rintro t x H0 H1 ht ⟨s1, ps, eD, pr⟩ ⟨rfl, m, hm, rfl⟩
    have pl : ps.length = t := by rw [pr.length, List.length_take]; omega
    refine ⟨wipe1 _ _ _, .str m, by simp [wipe, List.getElem?_set, hj], hte m H1 _ (List.mem_of_getElem? hm) s1 ?_⟩
    refine ⟨(by show 2 ≤ sizeLine; decide), fun o no => ⟨ps.map V.ref, ?_, ?_, same_mut (s1.trans (same_new no)) nD, ps ++ [o], ?_, ?_⟩⟩
    · rw [upd_ne (ne_of_none eD no)]
      exact eD
    · rw [List.length_map, pl]
      exact sz (by omega)
    · rw [upd_same, List.map_append]; rfl
    · have noD : o ≠ D := fun z => by
        subst z
        rw [eD] at no
        cases no
      rw [take_snoc hm]
      refine Paired.snoc ?_ ?_
      · have st2 : ∀ b w, H1 b = some (.tup w) → (upd (upd H1 o (.tup [.str m, v m])) D (.lst (ps.map V.ref ++ [.ref o]))) b = some (.tup w) := fun b w e => by
          rw [upd_ne (ne_of e eD (fun z => by cases z)), upd_ne (ne_of_none e no)]
          exact e
        exact Paired.mapP pr fun b m e => st2 _ _ e
      · show (upd (upd H1 o (.tup [.str m, v m])) D (.lst (ps.map V.ref ++ [.ref o]))) o = some (.tup [.str m, v m])
        rw [upd_ne noD, upd_same]
  · rintro H1 ⟨s1, ps, eD, pr⟩
    rw [List.take_of_length_le (Nat.le_refl _)] at pr
    refine ⟨D, ps, mkd ms v, rfl, sqL eD, ?_, fun d nd' => ?_⟩
    · clear q hl nd ha eD hte
      induction pr with
      | nil => exact .nil
      | cons h0 _ ih => exact .cons (sqT h0) ih
    · have em : mergeK [] (mkd ms v) = mkd ms v := merge_mkd _ ms [] (by simpa using nd)
      rw [em]
      exact q _ d (s1.trans (same_new nd')) upd_same (s1.free nd')
/-! ### members, histories -/
def spIsMember : Sp := fun vs H Q _ => ∃ (a : Addr) (ms : List Str) (x : Str), vs = [.ref a, .str x] ∧ H a = some (.lst (sv ms)) ∧ Q (.bl (decide (x ∈ ms))) H
def spNeedMember : Sp := fun vs H Q _ => ∃ (a : Addr) (ms : List Str) (x : Str), vs = [.ref a, .str x] ∧ H a = some (.lst (sv ms)) ∧ x ∈ ms ∧ Q .non H
section
variable {P : Program} {w : World} {K : PySem.W.Frag} {mg : Str → Option Value} {base : Heap} (T : Txt K mg)
theorem ok_is_member : FnOk P w K mg base CX0 1 T.f_is_member T.fd_is_member ["members", "value"] spIsMember := by
  refine T.F_is_member.ok sc_is_member (fun vs H Q E h => ?_) (fun cdv A outer s H vs Q E hr h => ?_)
  · obtain ⟨a, ms, x, rfl, _⟩ := h
    rfl
  · obtain ⟨a, ms, x, rfl, ha, q⟩ := h
    refine ⟨_, pss_one (ps_ret (pe_and (pe_callB call_isi (by rfl) T.z_isinstance (by decide +kernel) (pa_cons (pv 1) (pa_cons (pe_bltn (v := .ty "str") (by rfl) T.z_str (by decide +kernel) rfl) pa_nil)))
      (pe_one (pe_cmpR op_in_seq (pv 1) (pv 0) rfl)))), ?_⟩
    refine ⟨_, rfl, .str x, .ty "str", .type "str", .type "str", true, rfl, .ty _, .base (.str x), kit_ty (by decide +kernel), true, rfl, iteT ?_⟩
    refine ⟨_, rfl, _, rfl, a, sv ms, rfl, .inl (sqL ha), rfl, flat_sv ms, ?_⟩
    show Q (.bl (inV (V.str x) (sv ms))) H
    rw [inV_sv]
    exact q
theorem ok_need_member : FnOk P w K mg base CX0 2 T.f_need_member T.fd_need_member ["members", "value"] spNeedMember := by
  have G1 : FnOk P w K mg base CX0 1 T.f_is_member T.fd_is_member ["members", "value"] spIsMember := ok_is_member T
  refine T.F_need_member.ok sc_need_member (fun vs H Q E h => ?_) (fun cdv A outer s H vs Q E hr h => ?_)
  · obtain ⟨a, ms, x, rfl, _⟩ := h
    rfl
  · obtain ⟨a, ms, x, rfl, ha, hx, q⟩ := h
    refine ⟨_, pss_one (ps_if (pt_not (pt_val (pe_call G1 hr (by rfl) T.g_is_member T.F_is_member.kp T.b_is_member .nil pass0 (pa_cons (pv 0) (pa_cons (pv 1) pa_nil))))) pss_never pss_nil), ?_⟩
    refine ⟨_, rfl, _, rfl, a, ms, x, rfl, ha, _, rfl, ?_⟩
    rw [decide_eq_true hx]
    exact iteF q
end
/-! ### lists of all members -/
structure ListsOf (ms ks : List Str) (f : Str → List Str) : Prop where
  perm : ks.Perm ms
  mem : ∀ m ∈ ms, ∀ g ∈ f m, g ∈ ms ∧ g ≠ m
  len : ∀ m ∈ ms, (f m).length ≤ 1000
def hd1 : List Str → Str
  | [] => ""
  | x :: _ => x
def ents (ms : List Str) (p : Str) (f : Str → List Str) : List Str := ms.filter fun m => !decide (m = p) && !decide (f m = [])
theorem ents_snoc {ms : List Str} {p m : Str} {f : Str → List Str} {i : Nat} (h : ms[i]? = some m) : ents (ms.take (i + 1)) p f = ents (ms.take i) p f ++ (if m = p then [] else if f m = [] then [] else [m]) := by
  rw [take_snoc h]
  unfold ents
  rw [List.filter_append]
  by_cases z : m = p <;> by_cases y : f m = [] <;> simp [z, y]
def hv (f : Str → List Str) : Str → V := fun m => .str (hd1 (f m))
def spAreLists : Sp := fun vs H Q _ => ∃ (a d : Addr) (ms ks : List Str) (ad : Str → Addr) (f : Str → List Str), vs = [.ref a, .ref d] ∧ H a = some (.lst (sv ms)) ∧ DL H d ks ad f ∧ Members ms ∧ ListsOf ms ks f ∧ ∀ H', Same H H' → Q (.bl true) H'
def spNeedLists : Sp := fun vs H Q _ => ∃ (a d : Addr) (ms ks : List Str) (ad : Str → Addr) (f : Str → List Str) (p : Str), vs = [.ref a, .str p, .ref d] ∧ H a = some (.lst (sv ms)) ∧ DL H d ks ad f ∧ Members ms ∧ ListsOf ms ks f ∧ p ∈ ms ∧ ∀ H', Same H H' → Q .non H'
def spStarts : Sp := fun vs H Q _ => ∃ (a d : Addr) (ms ks : List Str) (ad : Str → Addr) (f : Str → List Str) (p : Str), vs = [.ref a, .str p, .ref d] ∧ H a = some (.lst (sv ms)) ∧ DL H d ks ad f ∧ Members ms ∧ ListsOf ms ks f ∧ p ∈ ms ∧
  ∀ H' r, Same H H' → H r = none → H' r = some (.dK (mkd (ents ms p f) (hv f))) → Q (.ref r) H'
section
variable {P : Program} {w : World} {K : PySem.W.Frag} {mg : Str → Option Value} {base : Heap} (T : Txt K mg)
theorem ok_are_lists_of : FnOk P w K mg base CX0 2 T.f_are_lists_of T.fd_are_lists_of ["members", "value"] spAreLists := by
  have G1 : FnOk P w K mg base CX0 1 T.f_is_member T.fd_is_member ["members", "value"] spIsMember := ok_is_member T
  refine T.F_are_lists_of.ok sc_are_lists_of (fun vs H Q E h => ?_) (fun cdv A outer s H vs Q E hr h => ?_)
  · obtain ⟨a, d, ms, ks, ad, f, rfl, _⟩ := h
    rfl
  · obtain ⟨a, d, ms, ks, ad, f, rfl, ha, dl, M, L, q⟩ := h
    have hu := hu_of hr
    have nd := sc_are_lists_of.nd
    refine ⟨_, pss_cons (ps_if (PW.pt (pw_or (pt_not (pt_val (pe_callB call_isi (by rfl) T.z_isinstance (by decide +kernel) (pa_cons (pv 1) (pa_cons (pe_bltn (v := .ty "dict") (by rfl) T.z_dict (by decide +kernel) rfl) pa_nil)))))
        (pw_or (pt_cmpR op_ne (pe_callB call_lenD (by rfl) T.z_len PySem.boot_len (pa_cons (pv 1) pa_nil)) (pe_callB call_lenK (by rfl) T.z_len PySem.boot_len (pa_cons (pv 0) pa_nil)) (nomark _))
        (pw_or1 (pt_not (pt_val (pe_callB (cr_all rfl) (by rfl) T.z_all (by decide +kernel) (pa_cons
          (pe_lc (own := [("member", 2)]) (g := gName 2) (tt := tYes) rfl nd (pi_list (pv 0)) (blkOk_by (N := ["members", "value", "member", "entries", "giver"]) (sc := defScope s_are_lists_of) (by decide +kernel)) (fun _ _ _ _ _ => pg_name (i := 2) nd rfl (.inl rfl)) (fun _ _ _ _ _ => pts_nil)
            (fun _ _ _ _ _ => pe_cmp (pc_din hu (pv 2) (pv 1)))) pa_nil)))))))) (pss_one (ps_ret pe_bl)) pss_nil)
      (pss_cons (ps_for PassesOwn.never rfl (pi_list (pv 0)) (pg_name (i := 2) nd rfl (.inr rfl))
        (pss_cons (ps_set (i := 3) nd rfl (.inl rfl) (pe_dget hu (pv 1) (pv 2) (fun _ _ => rfl)))
        (pss_cons (ps_if (pt_not (pt_val (pe_callB call_isi (by rfl) T.z_isinstance (by decide +kernel) (pa_cons (pv 3) (pa_cons (pe_bltn (v := .ty "list") (by rfl) T.z_list (by decide +kernel) rfl) pa_nil))))) (pss_one (ps_ret pe_bl)) pss_nil)
        (pss_one (ps_if (pt_not (pt_val (pe_callB (cr_all rfl) (by rfl) T.z_all (by decide +kernel) (pa_cons
          (pe_lc (own := [("giver", 4)]) (g := gName 4) (tt := tYes) rfl nd (pi_list (pv 3)) (blkOk_by (N := ["members", "value", "member", "entries", "giver"]) (sc := defScope s_are_lists_of) (by decide +kernel)) (fun _ _ _ _ _ => pg_name (i := 4) nd rfl (.inl rfl)) (fun _ _ _ _ _ => pts_nil)
            (fun _ _ _ _ _ => pe_and (pe_call G1 (hr.mono (by decide)) (by rfl) T.g_is_member T.F_is_member.kp T.b_is_member .nil pass0 (pa_cons (pv 0) (pa_cons (pv 4) pa_nil))) (pe_one (pe_cmpR op_ne (pv 4) (pv 2) (nomark _))))) pa_nil)))) (pss_one (ps_ret pe_bl)) pss_nil)))))
      (pss_one (ps_ret pe_bl))), ?_⟩
    have ndk : ks.Nodup := L.perm.nodup_iff.mpr M.nd
    refine ⟨_, rfl, .ref d, .ty "dict", .type "dict", .type "dict", true, rfl, .ty _, .base (.dK dl.dict), kit_ty (by decide +kernel), true, rfl, iteF ?_⟩
    refine ⟨_, rfl, d, _, rfl, dl.dict, _, rfl, a, sv ms, rfl, .inl (sqL ha), rfl, _, rfl, ?_⟩
    rw [decide_eq_true (show V.int ((mkv ks ad).length : Nat) = V.int ((sv ms).length : Nat) by rw [mkd_len, List.length_map, L.perm.length_eq])]
    refine iteF ?_
    refine ⟨_, rfl, a, rfl, ⟨_, sqL ha⟩, fun D nD => lc_it (walk_sv ms) (fun i H2 => Same H H2 ∧ H2 D = some (.lst (List.replicate i (.bl true))))
      ⟨same_new nD, by rw [upd_same]; rfl⟩ (fun i H2 _ p => p.1.seq (sqL ha)) ?_ ?_⟩
    · rintro i x H2 H3 hi ⟨s2, e2⟩ ⟨rfl, m, hm, rfl⟩
      have mm := List.mem_of_getElem? hm
      refine ⟨rfl, _, rfl, _, rfl, d, _, rfl, (dl.same s2).get (L.perm.mem_iff.mpr mm), _, e2, ?_, same_mut s2 nD, ?_⟩
      · rw [List.length_replicate]
        exact sz (by have := M.hi; omega)
      · rw [upd_same, rep_snoc]
        rfl
    · rintro H2 ⟨s2, e2⟩
      refine ⟨D, List.replicate ms.length true, rfl, sqL (by rw [e2]; simp), _, rfl, ?_⟩
      rw [show (List.replicate ms.length true).all id = true by simp]
      refine iteF ?_
      refine ⟨.ref a, rfl, a, rfl, ⟨_, sqL (s2 _ _ ha)⟩, for_it (walk_sv ms) (fun i σ H3 => ∃ x2 x3, σ = [some (.ref a), some (.ref d), x2, x3, none] ∧ Same H H3) ⟨none, none, rfl, s2⟩ (fun i σ H3 _ p => by obtain ⟨x2, x3, _, s3⟩ := p; exact sqL (s3 _ _ ha)) ?_ ?_⟩
      · rintro i x σ H3 H4 hi ⟨x2, x3, rfl, s3⟩ ⟨rfl, m, hm, rfl⟩
        have mm := List.mem_of_getElem? hm
        have dl3 := dl.same s3
        have e3 := dl3.at_ m (L.perm.mem_iff.mpr mm)
        refine ⟨_, rfl, _, rfl, d, _, rfl, dl3.get (L.perm.mem_iff.mpr mm), ?_⟩
        refine ⟨_, rfl, .ref (ad m), .ty "list", .type "list", .type "list", true, rfl, .ty _, .base (.lst e3), kit_ty (by decide +kernel), true, rfl, iteF ?_⟩
        refine ⟨_, rfl, ad m, rfl, ⟨_, sqL e3⟩, fun D3 nD3 => lc_it (walk_sv (f m)) (fun j H5 => Same H4 H5 ∧ H5 D3 = some (.lst (List.replicate j (.bl true))))
          ⟨same_new nD3, by rw [upd_same]; rfl⟩ (fun j H5 _ p => p.1.seq (sqL e3)) ?_ ?_⟩
        · rintro j x H5 H6 hj ⟨s5, e5⟩ ⟨rfl, g, hg, rfl⟩
          obtain ⟨g1, g2⟩ := L.mem m mm g (List.mem_of_getElem? hg)
          refine ⟨rfl, _, rfl, _, rfl, a, ms, g, rfl, s5 _ _ (s3 _ _ ha), true, by rw [decide_eq_true g1], iteT ?_⟩
          refine ⟨_, rfl, _, rfl, rfl, _, e5, ?_, same_mut s5 nD3, ?_⟩
          · rw [List.length_replicate]
            exact sz (by have := L.len m mm; omega)
          · rw [upd_same, decide_eq_false (fun z => g2 (V.str.inj z)), rep_snoc]
            rfl
        · rintro H5 ⟨s5, e5⟩
          refine ⟨D3, List.replicate (f m).length true, rfl, sqL (by rw [e5]; simp), _, rfl, ?_⟩
          rw [show (List.replicate (f m).length true).all id = true by simp]
          exact iteF ⟨_, _, rfl, s3.trans s5⟩
      · rintro σ H3 ⟨x2, x3, rfl, s3⟩
        exact q _ s3
theorem ok_need_lists : FnOk P w K mg base CX0 4 T.f_need_lists T.fd_need_lists ["members", "first", "lists"] spNeedLists := by
  have G2 : FnOk P w K mg base CX0 2 T.f_are_lists_of T.fd_are_lists_of ["members", "value"] spAreLists := ok_are_lists_of T
  have G1 : FnOk P w K mg base CX0 2 T.f_need_member T.fd_need_member ["members", "value"] spNeedMember := ok_need_member T
  have G3 : FnOk P w K mg base CX0 3 T.f_need_members T.fd_need_members ["members"] spNeedMembers := ok_need_members T
  refine T.F_need_lists.ok sc_need_lists (fun vs H Q E h => ?_) (fun cdv A outer s H vs Q E hr h => ?_)
  · obtain ⟨a, d, ms, ks, ad, f, p, rfl, _⟩ := h
    rfl
  · obtain ⟨a, d, ms, ks, ad, f, p, rfl, ha, dl, M, L, hp, q⟩ := h
    have hr2 : Room 2 _ := hr.mono (by decide)
    refine ⟨_, pss_cons (ps_expr (pe_call G3 hr (by rfl) T.g_need_members T.F_need_members.kp T.b_need_members .nil pass0 (pa_cons (pv 0) pa_nil)))
      (pss_cons (ps_expr (pe_call G1 hr2 (by rfl) T.g_need_member T.F_need_member.kp T.b_need_member .nil pass0 (pa_cons (pv 0) (pa_cons (pv 1) pa_nil))))
      (pss_one (ps_if (pt_not (pt_val (pe_call G2 hr2 (by rfl) T.g_are_lists_of T.F_are_lists_of.kp T.b_are_lists_of .nil pass0 (pa_cons (pv 0) (pa_cons (pv 2) pa_nil))))) pss_never pss_nil))), ?_⟩
    exact ⟨_, rfl, a, ms, rfl, ha, M, fun H1 s1 => ⟨_, rfl, _, rfl, a, ms, p, rfl, s1 _ _ ha, hp, ⟨_, rfl, _, rfl, a, d, ms, ks, ad, f, rfl, s1 _ _ ha, dl.same s1, M, L, fun H2 s2 => ⟨true, rfl, iteF (q H2 (s1.trans s2))⟩⟩⟩⟩
theorem ok_starts_of : FnOk P w K mg base CX0 1 T.f_starts_of T.fd_starts_of ["members", "first", "lists"] spStarts := by
  refine T.F_starts_of.ok sc_starts_of (fun vs H Q E h => ?_) (fun cdv A outer s H vs Q E hr h => ?_)
  · obtain ⟨a, d, ms, ks, ad, f, p, rfl, _⟩ := h
    rfl
  · obtain ⟨a, d, ms, ks, ad, f, p, rfl, ha, dl, M, L, hp, q⟩ := h
    have hu := hu_of hr
    have hu64 : Around.units _ + 64 < cLine := hr.units
    have nd := sc_starts_of.nd
    refine ⟨_, pss_one (ps_ret (pe_dc (own := [("member", 3)]) (g := gName 3) (tt := tAnd (tTest (tOp rNe (tVar 3) (tVar 1))) (tTest (tOp (rNeD K) (tDGet (tVar 2) (tVar 3)) (tLst tNil)))) (tv := tOp (rIxL K) (tDGet (tVar 2) (tVar 3)) (tC (.int 0))) rfl nd (pi_list (pv 0))
      (blkOk_by (N := ["members", "first", "lists", "member"]) (sc := defScope s_starts_of) (by decide +kernel)) (fun _ _ _ _ _ => pg_name (i := 3) nd rfl (.inl rfl))
      (fun _ _ _ _ _ => pts_one (PW.pt (pw_and (pt_cmpR op_ne (pv 3) (pv 1) (nomark _)) (pw_and1 (pt_cmpR (op_neD hu64) (pe_dget hu (pv 2) (pv 3) (fun _ _ => rfl)) (pe_lst pa_nil) (nomark _))))))
      (fun _ _ _ _ _ => pv 3) (fun _ _ _ _ _ => pe_ix ix_list (pe_dget hu (pv 2) (pv 3) (fun _ _ => rfl)) pe_int (fun _ _ => rfl)))), ?_⟩
    have mk : ∀ m ∈ ms, m ∈ ks := fun m hm => L.perm.mem_iff.mpr hm
    refine ⟨.ref a, rfl, a, rfl, ⟨_, sqL ha⟩, fun D nD => dc_it (walk_sv ms) (fun i H1 => Same H H1 ∧ H1 D = some (.dK (mkd (ents (ms.take i) p f) (hv f))))
      ⟨same_new nD, upd_same⟩ (fun i H1 _ pp => sqL (pp.1 _ _ ha)) ?_ ?_⟩
    · rintro i x H1 H2 hi ⟨s1, eD⟩ ⟨rfl, m, hm, rfl⟩
      have mm := List.mem_of_getElem? hm
      have es := ents_snoc (p := p) (f := f) hm
      refine ⟨rfl, .str m, rfl, .str p, rfl, rfl, _, rfl, ?_⟩
      by_cases z : m = p
      · rw [decide_eq_true (by rw [z]), if_pos z, List.append_nil] at *
        refine iteF (iteF ⟨s1, ?_⟩)
        rw [es]
        exact eD
      · rw [decide_eq_false (fun q => z (V.str.inj q))]
        rw [if_neg z] at es
        refine iteT ?_
        have dl1 := dl.same s1
        refine ⟨.ref d, rfl, .str m, rfl, d, .ref (ad m), rfl, dl1.get (mk m mm), Nat.zero_le _, fun y ny => ?_⟩
        have s2 : Same H2 (upd H2 y (.lst [])) := same_new ny
        have okf : ∀ x ∈ f m, PyData.strOk x = true := fun x hx => nameB_ok (M.nm x (L.mem m mm x hx).1)
        refine ⟨_, _, dp_strs (sqL (s2 _ _ (dl1.at_ m (mk m mm)))), dp_strs (l := []) (sqL upd_same), shaped_strs okf, shaped_strs (fun _ w => by cases w), _, rfl, ?_⟩
        rw [eqv_strs]
        by_cases ho : f m = []
        · rw [decide_eq_true ho]
          rw [if_pos ho, List.append_nil] at es
          refine iteF ⟨s1.trans s2, ?_⟩
          rw [es]
          exact s2 _ _ eD
        · rw [decide_eq_false ho]
          rw [if_neg ho] at es
          refine iteT ?_
          have e2 := (dl1.same s2).at_ m (mk m mm)
          obtain ⟨g, t, eg⟩ : ∃ g t, f m = g :: t := by
            cases hq : f m with
            | nil => exact absurd hq ho
            | cons g t => exact ⟨g, t, rfl⟩
          have i0 : atI (sv (f m)) 0 = some (.str g) := by rw [eg]; exact atI_nat (j := 0) rfl
          have hnv : hv f m = .str g := by unfold hv; rw [eg]; rfl
          have mno : m ∉ ents (ms.take i) p f := fun z => not_take M.nd hm (List.mem_filter.mp z).1
          refine ⟨.str m, rfl, .ref d, rfl, .str m, rfl, d, .ref (ad m), rfl, (dl1.same s2).get (mk m mm), ad m, _, 0, .str g, rfl, rfl, sqL e2, i0, ?_⟩
          refine ⟨mkd (ents (ms.take i) p f) (hv f), Sum.inr m, rfl, s2 _ _ eD, ?_, same_mut (s1.trans s2) nD, ?_⟩
          · rw [mkd_len]
            have l1 : (ents (ms.take i) p f).length ≤ (ms.take i).length := List.length_filter_le _ _
            rw [List.length_take] at l1
            exact sz (by have := M.hi; omega)
          · rw [upd_same, es, mkd_snoc (v' := hv f) mno (fun _ _ => rfl) hnv]
    · rintro H1 ⟨s1, eD⟩
      rw [List.take_of_length_le (Nat.le_refl _)] at eD
      exact q _ D s1 nD eD
end
/-! ### the law's draws -/
/-- a tin of which at most n numbers were drawn -/
def Bag (H : Hp) (b : Addr) (n : Nat) : Prop := ∃ b0 b1 b2 : Int, H b = some (.lst [.int b0, .int b1, .int b2]) ∧ 0 ≤ b1 ∧ b1 < 2 ^ 136 ∧ 0 ≤ b2 ∧ b2 ≤ n
theorem Bag.mono {H : Hp} {b : Addr} {n m : Nat} (h : Bag H b n) (hn : n ≤ m) : Bag H b m := by
  obtain ⟨b0, b1, b2, e, h1, h2, h3, h4⟩ := h
  exact ⟨b0, b1, b2, e, h1, h2, h3, by omega⟩
theorem Bag.keep {W : List Addr} {H H' : Hp} {b : Addr} {n : Nat} (h : Bag H b n) (k : Keep W H H') (nb : b ∉ W) : Bag H' b n := by
  obtain ⟨b0, b1, b2, e, r⟩ := h
  exact ⟨b0, b1, b2, k _ _ e nb, r⟩
theorem Bag.same {H H' : Hp} {b : Addr} {n : Nat} (h : Bag H b n) (k : Same H H') : Bag H' b n := h.keep (W := []) (Keep.of_same k) (by simp)
theorem Bag.lst {H : Hp} {b : Addr} {n : Nat} (h : Bag H b n) : ∃ xs, H b = some (.lst xs) := by
  obtain ⟨b0, b1, b2, e, r⟩ := h
  exact ⟨_, e⟩
theorem Bag.ne {H : Hp} {b p : Addr} {n : Nat} (h : Bag H b n) (np : H p = none) : b ≠ p := by
  obtain ⟨xs, e⟩ := h.lst
  exact ne_of_none e np
def spTin (K : PySem.W.Frag) : Sp := fun vs H Q _ => ∃ (a : Addr) (ns : List Int) (k : Nat), vs = [.ref a, .int k] ∧ SqL K H a (ns.map V.int) ∧ k ≤ 63 ∧ ∀ H' p, Same H H' → H p = none → Bag H' p 0 → Q (.ref p) H'
def spPinch : Sp := fun vs H Q _ => ∃ (b : Addr) (m : Int) (n : Nat), vs = [.ref b, .int m] ∧ 1 ≤ m ∧ m ≤ 1000000 ∧ Bag H b n ∧ n ≤ 1000000000 ∧ ∀ H' r, Keep [b] H H' → Bag H' b (n + 1) → 0 ≤ r → r < m → Q (.int r) H'
section
variable {P : Program} {w : World} {K : PySem.W.Frag} {mg : Str → Option Value} {base : Heap} (T : Txt K mg)
theorem ok_tin : FnOk P w K mg base CX0 1 T.f_l_tin T.fd_l_tin ["_law_script", "_law_k"] (spTin K) := by
  refine T.F_l_tin.ok sc_l_tin (fun vs H Q E h => ?_) (fun cdv A outer s H vs Q E hr h => ?_)
  · obtain ⟨a, ns, k, rfl, _⟩ := h
    rfl
  · obtain ⟨a, ns, k, rfl, hS, hk, q⟩ := h
    have nd := sc_l_tin.nd
    refine ⟨_, pss_cons (ps_set (i := 2) nd rfl (.inl rfl) (pe_ifExp (pt_cmpR op_lt (pv 1) (pe_callB call_lenK (by rfl) T.z_len PySem.boot_len (pa_cons (pv 0) pa_nil)) (nomark _)) (pe_ix ix_list (pv 0) (pv 1) (fun _ _ => rfl)) pe_int))
      (pss_one (ps_ret (pe_lst (pa_cons (pe_callB (call_max2 rfl) (by rfl) T.z_max (by decide +kernel) (pa_cons pe_int (pa_cons (pe_op op_sub (pe_callB call_abs (by rfl) T.z_abs (by decide +kernel) (pa_cons (pv 2) pa_nil)) (pe_op op_pow pe_int pe_int)) pa_nil)))
        (pa_cons (pe_op op_add (pe_op op_add (pe_op op_mulW (pe_op op_mod (pv 2) (pe_op op_add (pe_op op_pow pe_int pe_int) pe_int)) pe_int) (pe_op op_mulW pe_int (pv 1))) pe_int) (pa_cons pe_int pa_nil)))))), ?_⟩
    have go : ∀ c : Int, 0 ≤ c % (10 ^ (38 : Int).toNat + 133) ∧ c % (10 ^ (38 : Int).toNat + 133) < 2 ^ 128 := fun c => by
      have hp : (0 : Int) < 10 ^ (38 : Int).toNat + 133 := by decide +kernel
      have h1 := Int.emod_nonneg c (show (10 ^ (38 : Int).toNat + 133 : Int) ≠ 0 by omega)
      have h2 := Int.emod_lt_of_pos c hp
      have h3 : (10 ^ (38 : Int).toNat + 133 : Int) < 2 ^ 128 := by decide +kernel
      exact ⟨h1, Int.lt_trans h2 h3⟩
    refine asg_val (fun v H' => H' = H ∧ ∃ c : Int, v = .int c) (fun Q2 k2 => ?_) ?_
    · refine ⟨_, rfl, .ref a, rfl, a, ns.map V.int, rfl, .inl hS, k, _, rfl, rfl, _, rfl, ite2 (fun h1 => ?_) (fun h1 => ?_)⟩
      · have hk2 : k < ns.length := by have := of_decide_eq_true h1; rw [List.length_map] at this; omega
        exact ⟨.ref a, rfl, .int k, rfl, a, ns.map V.int, k, .int ns[k], rfl, rfl, hS, atI_nat (by rw [List.getElem?_map, List.getElem?_eq_getElem hk2]; rfl), k2 _ _ ⟨rfl, _, rfl⟩⟩
      · exact k2 _ _ ⟨rfl, _, rfl⟩
    · rintro _ _ ⟨rfl, c, rfl⟩
      obtain ⟨g1, g2⟩ := go c
      refine ⟨.int c, rfl, c, rfl, ?_⟩
      refine ⟨_, _, rfl, rfl, (by unfold CPow; decide +kernel), _, _, rfl, rfl, _, _, rfl, ?_⟩
      refine ⟨_, rfl, _, _, rfl, rfl, (by unfold CPow; decide +kernel), _, _, rfl, rfl, _, _, rfl, rfl, (show (0 : Int) < 10 ^ (38 : Int).toNat + 133 by decide +kernel), ?_⟩
      refine ⟨_, _, rfl, rfl, wide_mul (a := 128) (b := 10) (by omega) (by decide) (by decide) (by decide) (by decide), _, rfl, _, _, rfl, rfl, wide_mul (a := 20) (b := 10) (by decide) (by omega) (by decide) (by decide) (by decide), _, _, rfl, rfl, _, _, rfl, rfl, (by show 3 ≤ sizeLine; decide), fun p np => ?_⟩
      exact q _ p (same_new np) np ⟨_, _, _, upd_same, by omega, by omega, by omega, by omega⟩
theorem ok_pinch : FnOk P w K mg base CX0 1 T.f_l_pinch T.fd_l_pinch ["_law_tin_here", "_law_many"] spPinch := by
  refine T.F_l_pinch.ok sc_l_pinch (fun vs H Q E h => ?_) (fun cdv A outer s H vs Q E hr h => ?_)
  · obtain ⟨b, m, n, rfl, _⟩ := h
    rfl
  · obtain ⟨b, m, n, rfl, m1, m2, ⟨b0, b1, b2, hb, h1, h2, h3, h4⟩, hn, q⟩ := h
    have nd := sc_l_pinch.nd
    refine ⟨_, pss_cons (ps_if (pt_cmpR op_gt (pe_ix ix_list (pv 0) pe_int (fun _ _ => rfl)) pe_int (nomark _))
        (pss_cons (ps_set (i := 2) nd rfl (.inl rfl) (pe_op op_mod (pe_ix ix_list (pv 0) pe_int (fun _ _ => rfl)) (pv 1)))
        (pss_cons (ps_asg (pe_op op_fdivN (pe_ix ix_list (pv 0) pe_int (fun _ _ => rfl)) (pv 1)) (pg_sub (pv 0) pe_int set_list)) (pss_one (ps_ret (pv 2))))) pss_nil)
      (pss_cons (ps_asg (pe_op op_add (pe_ix ix_list (pv 0) pe_int (fun _ _ => rfl)) pe_int) (pg_sub (pv 0) pe_int set_list))
      (pss_cons (ps_set (i := 3) nd rfl (.inl rfl) (pe_op op_mod (pe_op op_powW (pe_op op_add (pe_ix ix_list (pv 0) pe_int (fun _ _ => rfl)) (pe_op op_mulW pe_int (pe_ix ix_list (pv 0) pe_int (fun _ _ => rfl)))) pe_int) (pe_op op_add (pe_op op_pow pe_int pe_int) pe_int)))
      (pss_cons (ps_set (i := 3) nd rfl (.inl rfl) (pe_op op_mod (pe_op op_powW (pe_op op_add (pv 3) (pe_op op_mulW pe_int (pe_ix ix_list (pv 0) pe_int (fun _ _ => rfl)))) pe_int) (pe_op op_add (pe_op op_pow pe_int pe_int) pe_int)))
      (pss_one (ps_ret (pe_op op_mod (pe_op op_fdivN (pv 3) pe_int) (pv 1))))))), ?_⟩
    have i0 : atI [V.int b0, V.int b1, V.int b2] 0 = some (.int b0) := by rfl
    refine ⟨.ref b, rfl, b, _, 0, _, rfl, rfl, sqL hb, i0, b0, 0, rfl, rfl, _, rfl, ?_⟩
    refine ite2 (fun z => ?_) (fun z => ?_)
    · refine ⟨.ref b, rfl, b, _, 0, _, rfl, rfl, sqL hb, i0, .int m, rfl, b0, m, rfl, rfl, (by show 0 < m; omega), ?_⟩
      refine ⟨.ref b, rfl, b, _, 0, _, rfl, rfl, sqL hb, i0, .int m, rfl, b0, m, rfl, rfl, ⟨by omega, by omega⟩, ?_⟩
      refine ⟨.ref b, rfl, b, _, 0, 0, rfl, rfl, hb, rfl, ?_⟩
      refine ⟨_, rfl, ?_⟩
      exact q _ _ (keep_upd (by simp)) ⟨_, b1, b2, upd_same, h1, h2, h3, by omega⟩ (Int.emod_nonneg _ (by omega)) (Int.emod_lt_of_pos _ (by omega))
    · have i2 : atI [V.int b0, V.int b1, V.int b2] 2 = some (.int b2) := by rfl
      refine ⟨.ref b, rfl, b, _, 2, _, rfl, rfl, sqL hb, i2, _, _, rfl, rfl, ?_⟩
      refine ⟨.ref b, rfl, b, _, 2, 2, rfl, rfl, hb, rfl, ?_⟩
      have hb' : (upd H b (.lst ([V.int b0, V.int b1, V.int b2].set 2 (V.int (b2 + 1))))) b = some (.lst [V.int b0, V.int b1, V.int (b2 + 1)]) := upd_same
      have k1 : Keep [b] H (upd H b (.lst ([V.int b0, V.int b1, V.int b2].set 2 (V.int (b2 + 1))))) := keep_upd (by simp)
      generalize upd H b (.lst ([V.int b0, V.int b1, V.int b2].set 2 (V.int (b2 + 1)))) = H1 at hb' k1
      have j1 : atI [V.int b0, V.int b1, V.int (b2 + 1)] 1 = some (.int b1) := by rfl
      have j2 : atI [V.int b0, V.int b1, V.int (b2 + 1)] 2 = some (.int (b2 + 1)) := by rfl
      have c4 : (b2 + 1).natAbs < 2 ^ 40 := by omega
      have c5 : (b1 + 2860486313 * (b2 + 1)).natAbs < 2 ^ 140 := by omega
      refine ⟨.ref b, rfl, b, _, 1, _, rfl, rfl, sqL hb', j1, .ref b, rfl, b, _, 2, _, rfl, rfl, sqL hb', j2, _, _, rfl, rfl, wide_mul (a := 40) (b := 40) (by decide) c4 (by decide) (by decide) (by decide), _, _, rfl, rfl, _, _, rfl, rfl, pow3_ok c5 (by decide), ?_⟩
      have hp : (0 : Int) < 10 ^ (42 : Int).toNat + 63 := by decide +kernel
      have hp2 : (10 ^ (42 : Int).toNat + 63 : Int) < 2 ^ 142 := by decide +kernel
      refine ⟨_, _, rfl, rfl, (by unfold CPow; decide +kernel), _, _, rfl, rfl, _, _, rfl, rfl, hp, ?_⟩
      have e1 := Int.emod_nonneg ((b1 + 2860486313 * (b2 + 1)) ^ (3 : Int).toNat) (show (10 ^ (42 : Int).toNat + 63 : Int) ≠ 0 by omega)
      have e2 := Int.lt_trans (Int.emod_lt_of_pos ((b1 + 2860486313 * (b2 + 1)) ^ (3 : Int).toNat) hp) hp2
      have c6 : ∀ g1 : Int, 0 ≤ g1 → g1 < 2 ^ 142 → (g1 + 1190494759 * (b2 + 1)).natAbs < 2 ^ 145 := fun g1 w1 w2 => by omega
      refine ⟨_, rfl, .ref b, rfl, b, _, 2, _, rfl, rfl, sqL hb', j2, _, _, rfl, rfl, wide_mul (a := 40) (b := 40) (by decide) c4 (by decide) (by decide) (by decide), _, _, rfl, rfl, _, _, rfl, rfl, pow3_ok (n := 145) (c6 _ e1 e2) (by decide), ?_⟩
      have hp3 : (0 : Int) < 10 ^ (41 : Int).toNat + 37 := by decide +kernel
      refine ⟨_, _, rfl, rfl, (by unfold CPow; decide +kernel), _, _, rfl, rfl, _, _, rfl, rfl, hp3, ?_⟩
      refine ⟨_, rfl, _, _, rfl, rfl, ⟨by decide, by decide⟩, _, rfl, _, _, rfl, rfl, (by show 0 < m; omega), ?_⟩
      exact q _ _ k1 ⟨_, _, _, hb', h1, h2, by omega, by omega⟩ (Int.emod_nonneg _ (by omega)) (Int.emod_lt_of_pos _ (by omega))
end
/-! ### members and shuffled lists of the law -/
theorem erase_perm {α : Type} : ∀ {l : List α} {k : Nat} {y : α}, l[k]? = some y → (y :: l.eraseIdx k).Perm l
  | [], k, y, h => by simp at h
  | a :: r, 0, y, h => by
    have e : a = y := Option.some.inj h
    rw [e]
    exact .refl _
  | a :: r, k + 1, y, h => by
    have ih := erase_perm (l := r) (k := k) (y := y) h
    show (y :: a :: r.eraseIdx k).Perm (a :: r)
    exact (List.Perm.swap a y _).trans (ih.cons a)
theorem sv_erase : ∀ (l : List Str) (k : Nat), (sv l).eraseIdx k = sv (l.eraseIdx k)
  | [], _ => rfl
  | _ :: _, 0 => rfl
  | a :: r, k + 1 => by
    show V.str a :: (sv r).eraseIdx k = V.str a :: sv (r.eraseIdx k)
    rw [sv_erase r k]
theorem pop_perm {d l p : List Str} {k : Nat} {y : Str} (h : (d ++ l).Perm p) (e : l[k]? = some y) : ((d ++ [y]) ++ l.eraseIdx k).Perm p := by
  rw [List.append_assoc]
  exact ((erase_perm e).append_left d).trans h
def namesL : List Str := ["a", "ab", "b", "c", "empty", "none", "p", "zzzzzzzz", "aaaaaaaa", "group", "x", "y", "z", "d", "e"]
theorem names_nd : namesL.Nodup := by decide +kernel
theorem names_nm : ∀ m ∈ namesL, nameB m = true := by decide +kernel
theorem seq_at {r : Int} {n : Nat} (h0 : 0 ≤ r) (h1 : r < n) : seqIndex? r n = some r.toNat := by
  have e : (if r < 0 then r + (n : Int) else r) = r := if_neg (by omega)
  unfold seqIndex?
  simp only [e]
  simp [h0, h1]
def spCrew : Sp := fun vs H Q _ => ∃ (b : Addr) (most : Int) (n : Nat), vs = [.ref b, .int most] ∧ 1 ≤ most ∧ most ≤ 12 ∧ Bag H b n ∧ n ≤ 900000000 ∧
  ∀ H' p ms, Keep [b] H H' → Bag H' b (n + 13) → H p = none → H' p = some (.lst (sv ms)) → Members ms → Q (.ref p) H'
def spShuf : Sp := fun vs H Q _ => ∃ (b a : Addr) (l : List Str) (n : Nat), vs = [.ref b, .ref a] ∧ H a = some (.lst (sv l)) ∧ a ≠ b ∧ l.length ≤ 1000 ∧ Bag H b n ∧ n ≤ 900000000 ∧
  ∀ H' p l', Keep [b] H H' → Bag H' b (n + l.length) → H p = none → H' p = some (.lst (sv l')) → l'.Perm l → Q (.ref p) H'
section
variable {P : Program} {w : World} {K : PySem.W.Frag} {mg : Str → Option Value} {base : Heap} (T : Txt K mg)
theorem ok_crew : FnOk P w K mg base CX0 2 T.f_l_crew T.fd_l_crew ["_law_tin_here", "_law_most"] spCrew := by
  have GT : FnOk P w K mg base CX0 1 T.f_l_pinch T.fd_l_pinch ["_law_tin_here", "_law_many"] spPinch := ok_pinch T
  refine T.F_l_crew.ok sc_l_crew (fun vs H Q E h => ?_) (fun cdv A outer s H vs Q E hr h => ?_)
  · obtain ⟨b, most, n, rfl, _⟩ := h
    rfl
  · obtain ⟨b, most, n, rfl, l1, l2, B, hn, q⟩ := h
    have nd := sc_l_crew.nd
    refine ⟨_, pss_cons (ps_set (i := 2) nd rfl (.inr rfl) (pe_lst (pa_cons pe_str (pa_cons pe_str (pa_cons pe_str (pa_cons pe_str (pa_cons pe_str (pa_cons pe_str (pa_cons pe_str (pa_cons pe_str (pa_cons pe_str (pa_cons pe_str (pa_cons pe_str (pa_cons pe_str (pa_cons pe_str (pa_cons pe_str (pa_cons pe_str pa_nil)))))))))))))))))
      (pss_one (ps_ret (pe_callB cr_sortedS (by rfl) T.z_sorted (by decide +kernel) (pa_cons
        (pe_lc (own := [("_law_k", 3)]) (g := gName 3) (tt := tYes) (te := tBM K "list" rPopAt (tVar 2) (tCons (tCall spPinch [] E0 (tCons (tVar 0) (tCons (tCB (rLenOf K) (tCons (tVar 2) tNil)) tNil))) tNil)) rfl nd
          (pi_range1 (by rfl) T.z_range (pa_cons (pe_op op_add pe_int (pe_call GT hr (by rfl) T.g_l_pinch T.F_l_pinch.kp T.b_l_pinch .nil pass0 (pa_cons (pv 0) (pa_cons (pv 1) pa_nil)))) pa_nil))
          (blkOk_by (N := ["_law_tin_here", "_law_most", "_law_names", "_law_k"]) (sc := defScope s_l_crew) (by decide +kernel)) (fun _ _ _ _ _ => pg_name (i := 3) nd rfl (.inl rfl)) (fun _ _ _ _ _ => pts_nil)
          (fun _ _ _ _ _ => pe_bm PySem.F.plainAttrs_list PySem.F.slot_list_pop PySem.F.type_list_pop mt_popAt (pv 2) (pa_cons (pe_call GT hr (by rfl) T.g_l_pinch T.F_l_pinch.kp T.b_l_pinch .nil pass0 (pa_cons (pv 0) (pa_cons (pe_callB call_lenK (by rfl) T.z_len PySem.boot_len (pa_cons (pv 2) pa_nil)) pa_nil))) pa_nil))) pa_nil)))), ?_⟩
    refine ⟨(by show 15 ≤ sizeLine; decide), fun pl npl => ?_⟩
    have nbl : b ≠ pl := B.ne npl
    have k0 : Keep [b] H (upd H pl (.lst (sv namesL))) := keep_new npl
    have B0 : Bag (upd H pl (.lst (sv namesL))) b n := B.same (same_new npl)
    refine ⟨.ref b, rfl, .int most, rfl, b, most, n, rfl, l1, by omega, B0, by omega, fun H1 r k1 B1 r0 r1 => ?_⟩
    have hpl : H1 pl = some (.lst (sv namesL)) := k1 _ _ upd_same (by simpa using Ne.symm nbl)
    refine ⟨_, _, rfl, rfl, _, rfl, by omega, by omega, fun D nD => ?_⟩
    have eN : 1 ≤ (1 + r).toNat ∧ (1 + r).toNat ≤ 12 := by omega
    generalize (1 + r).toNat = N at eN
    have nbD : b ≠ D := B1.ne nD
    have nplD : pl ≠ D := ne_of_none hpl nD
    have k01 := k0.trans k1
    refine lc_it (walk_range (lo := 0) (n := N)) (fun i H2 => Keep [b] H H2 ∧ Bag H2 b (n + 1 + i) ∧ ∃ left done : List Str, H2 pl = some (.lst (sv left)) ∧ H2 D = some (.lst (sv done)) ∧ (done ++ left).Perm namesL ∧ done.length = i)
      ⟨k01.trans (keep_new nD), (B1.same (same_new nD)).mono (by omega), namesL, [], by rw [upd_ne nplD]; exact hpl, upd_same, .refl _, rfl⟩ (fun _ _ _ _ => True.intro) ?_ ?_
    · rintro i x H2 H3 hi ⟨k2, B2, left, done, e2, eD, pm, dl⟩ ⟨rfl, rfl⟩
      have ll : left.length + i = 15 := by
        have := pm.length_eq
        rw [List.length_append] at this
        have h15 : namesL.length = 15 := rfl
        omega
      refine ⟨rfl, .ref pl, rfl, .inl ⟨rfl, _, sqL e2⟩, .ref b, rfl, .ref pl, rfl, pl, sv left, rfl, .inl (sqL e2), b, _, n + 1 + i, rfl, by rw [List.length_map]; omega, by rw [List.length_map]; omega, B2, by omega, fun H4 r' k4 B4 r0' r1' => ?_⟩
      rw [List.length_map] at r1'
      have hk : r'.toNat < left.length := by omega
      have ek : left[r'.toNat]? = some left[r'.toNat] := List.getElem?_eq_getElem hk
      have e4 : H4 pl = some (.lst (sv left)) := k4 _ _ e2 (by simpa using Ne.symm nbl)
      refine ⟨pl, sv left, r', r'.toNat, .str left[r'.toNat], rfl, rfl, e4, by omega, by omega, seq_at r0' (by rw [List.length_map]; exact r1'), sv_get ek, ?_⟩
      have eD4 : H4 D = some (.lst (sv done)) := k4 _ _ eD (by simpa using Ne.symm nbD)
      rw [sv_erase]
      refine ⟨sv done, by rw [upd_ne (Ne.symm nplD)]; exact eD4, by rw [List.length_map]; exact sz (by omega), ?_, ?_, left.eraseIdx r'.toNat, done ++ [left[r'.toNat]], ?_, ?_, pop_perm pm ek, by rw [List.length_append, dl]; rfl⟩
      · exact keep_mut (keep_mut (k2.trans k4) npl) (k01.free nD (by simpa using Ne.symm nbD))
      · exact (B4.keep (W := [pl]) (keep_upd (by simp)) (by simpa using nbl)).keep (W := [D]) (keep_upd (by simp)) (by simpa using nbD)
      · rw [upd_ne nplD, upd_same]
      · rw [upd_same]
        simp
    · rintro H2 ⟨k2, B2, left, done, e2, eD, pm, dl⟩
      refine ⟨D, done, rfl, sqL eD, by omega, fun ys p perm srt np => ?_⟩
      have ysub : ∀ m ∈ ys, m ∈ namesL := fun m hm => pm.mem_iff.mp (List.mem_append_left _ (perm.mem_iff.mp hm))
      have ynd : ys.Nodup := perm.nodup_iff.mpr ((List.nodup_append.mp (pm.nodup_iff.mpr names_nd)).1)
      have ylen : ys.length = N := by rw [perm.length_eq, dl]
      have np1 : H p = none := k2.free np (by simpa using Ne.symm (B2.ne np))
      refine q _ p ys (k2.trans (keep_new np)) ((B2.same (same_new np)).mono (by omega)) np1 upd_same ⟨by omega, by omega, fun m hm => names_nm m (ysub m hm), sorted_asc srt ynd, ynd⟩
theorem ok_shuffled : FnOk P w K mg base CX0 2 T.f_l_shuffled T.fd_l_shuffled ["_law_tin_here", "_law_things"] spShuf := by
  have GT : FnOk P w K mg base CX0 1 T.f_l_pinch T.fd_l_pinch ["_law_tin_here", "_law_many"] spPinch := ok_pinch T
  refine T.F_l_shuffled.ok sc_l_shuffled (fun vs H Q E h => ?_) (fun cdv A outer s H vs Q E hr h => ?_)
  · obtain ⟨b, a, l, n, rfl, _⟩ := h
    rfl
  · obtain ⟨b, a, l, n, rfl, ha, nab, hl, B, hn, q⟩ := h
    have nd := sc_l_shuffled.nd
    refine ⟨_, pss_cons (ps_set (i := 2) nd rfl (.inr rfl) (pe_callTy call_listK (by rfl) T.z_list (by decide +kernel) (pa_cons (pv 1) pa_nil)))
      (pss_one (ps_ret
        (pe_lc (own := [("_law_k", 3)]) (g := gName 3) (tt := tYes) (te := tBM K "list" rPopAt (tVar 2) (tCons (tCall spPinch [] E0 (tCons (tVar 0) (tCons (tCB (rLenOf K) (tCons (tVar 2) tNil)) tNil))) tNil)) rfl nd
          (pi_range1 (by rfl) T.z_range (pa_cons (pe_callB call_lenK (by rfl) T.z_len PySem.boot_len (pa_cons (pv 2) pa_nil)) pa_nil))
          (blkOk_by (N := ["_law_tin_here", "_law_things", "_law_left", "_law_k"]) (sc := defScope s_l_shuffled) (by decide +kernel)) (fun _ _ _ _ _ => pg_name (i := 3) nd rfl (.inl rfl)) (fun _ _ _ _ _ => pts_nil)
          (fun _ _ _ _ _ => pe_bm PySem.F.plainAttrs_list PySem.F.slot_list_pop PySem.F.type_list_pop mt_popAt (pv 2) (pa_cons (pe_call GT hr (by rfl) T.g_l_pinch T.F_l_pinch.kp T.b_l_pinch .nil pass0 (pa_cons (pv 0) (pa_cons (pe_callB call_lenK (by rfl) T.z_len PySem.boot_len (pa_cons (pv 2) pa_nil)) pa_nil))) pa_nil))))), ?_⟩
    refine ⟨.ref a, rfl, a, sv l, rfl, .inl (sqL ha), fun pl npl => ?_⟩
    have nbl : b ≠ pl := B.ne npl
    have k0 : Keep [b] H (upd H pl (.lst (sv l))) := keep_new npl
    have B0 : Bag (upd H pl (.lst (sv l))) b n := B.same (same_new npl)
    have hpl : (upd H pl (.lst (sv l))) pl = some (.lst (sv l)) := upd_same
    generalize upd H pl (.lst (sv l)) = H1 at k0 B0 hpl
    refine ⟨.ref pl, rfl, pl, sv l, rfl, .inl (sqL hpl), _, rfl, by omega, by rw [List.length_map]; omega, fun D nD => ?_⟩
    have eN : (((sv l).length : Nat) : Int).toNat = l.length := by rw [List.length_map]; rfl
    rw [eN]
    have nbD : b ≠ D := B0.ne nD
    have nplD : pl ≠ D := ne_of_none hpl nD
    refine lc_it (walk_range (lo := 0) (n := l.length)) (fun i H2 => Keep [b] H H2 ∧ Bag H2 b (n + i) ∧ ∃ left done : List Str, H2 pl = some (.lst (sv left)) ∧ H2 D = some (.lst (sv done)) ∧ (done ++ left).Perm l ∧ done.length = i)
      ⟨k0.trans (keep_new nD), (B0.same (same_new nD)).mono (by omega), l, [], by rw [upd_ne nplD]; exact hpl, upd_same, .refl _, rfl⟩ (fun _ _ _ _ => True.intro) ?_ ?_
    · rintro i x H2 H3 hi ⟨k2, B2, left, done, e2, eD, pm, dl⟩ ⟨rfl, rfl⟩
      have ll : left.length + i = l.length := by
        have := pm.length_eq
        rw [List.length_append] at this
        omega
      refine ⟨rfl, .ref pl, rfl, .inl ⟨rfl, _, sqL e2⟩, .ref b, rfl, .ref pl, rfl, pl, sv left, rfl, .inl (sqL e2), b, _, n + i, rfl, by rw [List.length_map]; omega, by rw [List.length_map]; omega, B2, by omega, fun H4 r' k4 B4 r0' r1' => ?_⟩
      rw [List.length_map] at r1'
      have hk : r'.toNat < left.length := by omega
      have ek : left[r'.toNat]? = some left[r'.toNat] := List.getElem?_eq_getElem hk
      have e4 : H4 pl = some (.lst (sv left)) := k4 _ _ e2 (by simpa using Ne.symm nbl)
      refine ⟨pl, sv left, r', r'.toNat, .str left[r'.toNat], rfl, rfl, e4, by omega, by omega, seq_at r0' (by rw [List.length_map]; exact r1'), sv_get ek, ?_⟩
      have eD4 : H4 D = some (.lst (sv done)) := k4 _ _ eD (by simpa using Ne.symm nbD)
      rw [sv_erase]
      refine ⟨sv done, by rw [upd_ne (Ne.symm nplD)]; exact eD4, by rw [List.length_map]; exact sz (by omega), ?_, ?_, left.eraseIdx r'.toNat, done ++ [left[r'.toNat]], ?_, ?_, pop_perm pm ek, by rw [List.length_append, dl]; rfl⟩
      · exact keep_mut (keep_mut (k2.trans k4) npl) (k0.free nD (by simpa using Ne.symm nbD))
      · exact (B4.keep (W := [pl]) (keep_upd (by simp)) (by simpa using nbl)).keep (W := [D]) (keep_upd (by simp)) (by simpa using nbD)
      · rw [upd_ne nplD, upd_same]
      · rw [upd_same]
        simp
    · rintro H2 ⟨k2, B2, left, done, e2, eD, pm, dl⟩
      have l0 : left = [] := by
        have := pm.length_eq
        rw [List.length_append] at this
        exact List.eq_nil_of_length_eq_zero (by omega)
      rw [l0, List.append_nil] at pm
      exact q _ D done k2 B2 (k0.free nD (by simpa using Ne.symm nbD)) eD pm
end
/-! ### lists and first times, as the law finds them -/
theorem DN.same' {H0 H H' : Hp} {d : Addr} {ms : List Str} {ad : Str → Addr} {f : Str → List Str} (h : DN H0 H d ms ad f) (s : Same H H') : DN H0 H' d ms ad f := ⟨h.dl.same s, h.d0, h.new, h.inj⟩
def spLists : Sp := fun vs H Q _ => ∃ (a b : Addr) (ms h : List Str), vs = [.ref a, .ref b] ∧ H a = some (.lst (sv ms)) ∧ H b = some (.lst (sv h)) ∧ ms.Nodup ∧ ms.length ≤ 1000 ∧ h.length ≤ 1000 ∧ (∀ x ∈ h, x ∈ ms) ∧
  ∀ H' d ad, Same H H' → DN H H' d ms ad (fun m => givers m h) → Q (.ref d) H'
section
variable {P : Program} {w : World} {K : PySem.W.Frag} {mg : Str → Option Value} {base : Heap} (T : Txt K mg)
theorem ok_l_lists : FnOk P w K mg base CX0 1 T.f_l_lists T.fd_l_lists ["_law_members", "_law_history"] spLists := by
  refine T.F_l_lists.ok sc_l_lists (fun vs H Q E h => ?_) (fun cdv A outer s H vs Q E hr h => ?_)
  · obtain ⟨a, b, ms, h, rfl, _⟩ := h
    rfl
  · obtain ⟨a, b, ms, h, rfl, ha, hb, mnd, ml, hl, hmem, q⟩ := h
    have hu := hu_of (k := 0) hr
    have nd := sc_l_lists.nd
    refine ⟨_, pss_cons (ps_set (i := 2) nd rfl (.inl rfl) (pe_callTy (call_dictK rfl) (by rfl) T.z_dict (by decide +kernel) (pa_cons
        (pe_lc (own := [("_law_member", 5)]) (g := gName 5) (tt := tYes) rfl nd (pi_list (pv 0)) (blkOk_by (N := ["_law_members", "_law_history", "_law_found", "_law_giver", "_law_taker", "_law_member"]) (sc := defScope s_l_lists) (by decide +kernel)) (fun _ _ _ _ _ => pg_name (i := 5) nd rfl (.inl rfl)) (fun _ _ _ _ _ => pts_nil)
          (fun _ _ _ _ _ => pe_tup (pa_cons (pv 5) (pa_cons (pe_lst pa_nil) pa_nil)))) pa_nil)))
      (pss_cons (ps_for PassesOwn.never rfl (pi_zip (by rfl) T.z_zip (pa_cons (pv 1) (pa_cons (pe_slice sl_list (pv 1) (po_some pe_int) po_none) pa_nil))) (pg_tup rfl (pgs_cons (pg_name (i := 3) nd rfl (.inl rfl)) (pgs_cons (pg_name (i := 4) nd rfl (.inl rfl)) pgs_nil)))
        (pss_one (ps_expr (pe_bm PySem.F.plainAttrs_list PySem.F.slot_list_append PySem.F.type_list_append mt_append (pe_dget hu (pv 2) (pv 4) (fun _ _ => rfl)) (pa_cons (pv 3) pa_nil)))))
      (pss_one (ps_ret (pv 2)))), ?_⟩
    refine dict_lists (i := 0) (j := 5) rfl (by show 5 < 6; decide) ha mnd ml fun H1 d ad s1 dn => ?_
    refine ⟨_, rfl, _, rfl, 1, rfl, b, sv h, rfl, sqL (s1 _ _ hb), fun c nc => ?_⟩
    have s2 : Same H1 (upd H1 c (.lst (cutV (sv h) (some 1) none))) := same_new nc
    have ec : (upd H1 c (.lst (cutV (sv h) (some 1) none))) c = some (.lst (sv (h.drop 1))) := by rw [upd_same, cut1, sv_drop]
    refine ⟨b, c, sv h, sv (h.drop 1), rfl, sqL (s2 _ _ (s1 _ _ hb)), sqL ec, ?_⟩
    have nHc : H c = none := s1.free nc
    refine for_it (walk_zip (n := h.length - 1) (xs := sv h) (ys := sv (h.drop 1)) (by simp)) (fun t σ H2 => ∃ x3 x4, σ = [some (.ref a), some (.ref b), some (.ref d), x3, x4, none] ∧ Same H H2 ∧ H2 c = some (.lst (sv (h.drop 1))) ∧ (∀ m ∈ ms, c ≠ ad m) ∧ DN H H2 d ms ad (fun m => givers m (h.take (t + 1)))) ?_
      (fun t σ H2 _ pp => by obtain ⟨x3, x4, _, s3, e3, _⟩ := pp; exact ⟨sqL (s3 _ _ hb), sqL e3⟩) ?_ ?_
    · refine ⟨none, none, rfl, s1.trans s2, ec, fun m hm => Ne.symm (ne_of_none (dn.dl.at_ m hm) nc), (DN.same' dn s2).congr fun m _ => ?_⟩
      cases h with
      | nil => rfl
      | cons x r => rfl
    · rintro t x σ H2 H3 ht ⟨x3, x4, rfl, s3, e3, ncm, dn3⟩ ⟨Tp, x1, x2, rfl, nT, rfl, f1, f2⟩
      obtain ⟨m1, g1, rfl⟩ := sv_get' f1
      obtain ⟨m2, g2, rfl⟩ := sv_get' f2
      have g2 : h[t + 1]? = some m2 := by rw [List.getElem?_drop, Nat.add_comm] at g2; exact g2
      have hm : m2 ∈ ms := hmem _ (List.mem_of_getElem? g2)
      have sT : Same H2 (upd H2 Tp (.tup [.str m1, .str m2])) := same_new nT
      have dn4 := DN.same' dn3 sT
      have gl := givers_len m2 (h.take (t + 1))
      have gl2 : (h.take (t + 1)).length ≤ 1000 := by rw [List.length_take]; omega
      refine ⟨Tp, _, rfl, sqT upd_same, rfl, .str m1, [.str m2], rfl, .str m2, [], rfl, rfl, .ref d, rfl, .str m2, rfl, d, .ref (ad m2), rfl, dn4.dl.get hm, .inl ⟨rfl, _, sqL (dn4.dl.at_ _ hm)⟩, .str m1, rfl, ad m2, sv (givers m2 (h.take (t + 1))), .str m1, rfl, rfl, dn4.dl.at_ _ hm, ?_, ?_⟩
      · rw [List.length_map]
        exact sz (by omega)
      · refine ⟨_, _, rfl, same_mut (s3.trans sT) (dn4.new _ hm), ?_, ncm, ?_⟩
        · rw [upd_ne (ncm _ hm)]
          exact sT _ _ e3
        have es : sv (givers m2 (h.take (t + 1))) ++ [V.str m1] = sv (givers m2 (h.take (t + 1)) ++ [m1]) := by simp
        rw [es]
        refine (dn4.set hm).congr fun m _ => ?_
        have et : h.take (t + 1) = h.take t ++ [m1] := take_snoc g1
        have et2 : h.take (t + 1 + 1) = h.take t ++ [m1, m2] := by rw [take_snoc g2, et, List.append_assoc]; rfl
        rw [et2, givers_snoc, ← et]
        by_cases e : m = m2
        · subst e
          rw [put_same, if_pos rfl]
        · rw [put_ne e, if_neg (Ne.symm e), List.append_nil]
    · rintro σ H2 ⟨x3, x4, rfl, s3, e3, ncm, dn3⟩
      refine ⟨.ref d, rfl, q _ d ad s3 (dn3.congr fun m _ => ?_)⟩
      rw [List.take_of_length_le (by omega)]
end
/-! ### the law's walk -/
theorem cut_last3 (xs : List V) : cutV xs (some (-3)) none = xs.drop (xs.length - 3) := by
  have h : HT.sIx xs.length 0 (some (-3)) = xs.length - 3 := by
    show (if (-3 : Int) < 0 then ((-3 : Int) + (xs.length : Int)).toNat else min (-3 : Int).toNat xs.length) = _
    rw [if_pos (by decide)]
    omega
  unfold cutV
  rw [h, HT.sIx_none]
  exact List.take_of_length_le (by rw [List.length_drop]; omega)
/-- some of the members: at least two, if there are two -/
structure SomeOf (ms xs : List Str) : Prop where
  sub : ∀ x ∈ xs, x ∈ ms
  lo : 1 ≤ xs.length
  hi : xs.length ≤ 12
  two : 2 ≤ ms.length → 2 ≤ xs.length
  nd : xs.Nodup
theorem someOf_all {ms : List Str} (M : Members ms) : SomeOf ms ms := ⟨fun _ h => h, M.lo, M.hi, id, M.nd⟩
theorem someOf_take {ms : List Str} (M : Members ms) : SomeOf ms (ms.take 2) := by
  have := M.lo
  have := M.hi
  exact ⟨fun _ h => List.mem_of_mem_take h, by rw [List.length_take]; omega, by rw [List.length_take]; omega, fun _ => by rw [List.length_take]; omega, M.nd.sublist (List.take_sublist _ _)⟩
theorem someOf_drop {ms : List Str} (M : Members ms) : SomeOf ms (ms.drop (ms.length - 3)) := by
  have := M.lo
  have := M.hi
  exact ⟨fun _ h => List.mem_of_mem_drop h, by rw [List.length_drop]; omega, by rw [List.length_drop]; omega, fun _ => by rw [List.length_drop]; omega, M.nd.sublist (List.drop_sublist _ _)⟩
/-- an if by what its test may be -/
theorem if_val {c : TT} {t u : TS} {D : Ends} {σ : L2.St} {H : Hp} (good : Bool → Hp → Prop) (h : ∀ Q : Bool → Hp → Prop, (∀ b H', good b H' → Q b H') → c σ H Q) (k1 : ∀ H', good true H' → t D σ H') (k2 : ∀ H', good false H' → u D σ H') : c σ H fun b H' => if b = true then t D σ H' else u D σ H' :=
  h _ fun b H' g => by
    cases b with
    | true => exact iteT (k1 H' g)
    | false => exact iteF (k2 H' g)
def spWalk : Sp := fun vs H Q _ => ∃ (b a : Addr) (ms : List Str) (many n : Nat), vs = [.ref b, .ref a, .int many] ∧ H a = some (.lst (sv ms)) ∧ Members ms ∧ many ≤ 400 ∧ Bag H b n ∧ n ≤ 900000000 ∧ a ≠ b ∧
  ∀ H' p h, Keep [b] H H' → Bag H' b (n + 4 + 2 * many) → H p = none → H' p = some (.lst (sv h)) → Hist ms h → h.length ≤ 1 + many → Q (.ref p) H'
section
variable {P : Program} {w : World} {K : PySem.W.Frag} {mg : Str → Option Value} {base : Heap} (T : Txt K mg)
theorem ok_l_walk : FnOk P w K mg base CX0 2 T.f_l_walk T.fd_l_walk ["_law_tin_here", "_law_members", "_law_many"] spWalk := by
  have GT : FnOk P w K mg base CX0 1 T.f_l_pinch T.fd_l_pinch ["_law_tin_here", "_law_many"] spPinch := ok_pinch T
  refine T.F_l_walk.ok sc_l_walk (fun vs H Q E h => ?_) (fun cdv A outer s H vs Q E hr h => ?_)
  · obtain ⟨b, a, ms, many, n, rfl, _⟩ := h
    rfl
  · obtain ⟨b, a, ms, many, n, rfl, ha, M, hmany, B, hn, nab, q⟩ := h
    have nd := sc_l_walk.nd
    refine ⟨_, pss_cons (ps_set (i := 3) nd rfl (.inl rfl) (pe_ix ix_list (pe_lst (pa_cons (pv 1) (pa_cons (pe_slice sl_list (pv 1) po_none (po_some pe_int)) (pa_cons (pe_slice sl_list (pv 1) (po_some (pe_un un_neg pe_int)) po_none) pa_nil)))) (pe_call GT hr (by rfl) T.g_l_pinch T.F_l_pinch.kp T.b_l_pinch .nil pass0 (pa_cons (pv 0) (pa_cons pe_int pa_nil))) (fun _ _ => rfl)))
      (pss_cons (ps_asg (pe_tup (pa_cons (pe_lst (pa_cons (pe_ix ix_list (pv 3) (pe_call GT hr (by rfl) T.g_l_pinch T.F_l_pinch.kp T.b_l_pinch .nil pass0 (pa_cons (pv 0) (pa_cons (pe_callB call_lenK (by rfl) T.z_len PySem.boot_len (pa_cons (pv 3) pa_nil)) pa_nil))) (fun _ _ => rfl)) pa_nil)) (pa_cons (pe_call GT hr (by rfl) T.g_l_pinch T.F_l_pinch.kp T.b_l_pinch .nil pass0 (pa_cons (pv 0) (pa_cons pe_int pa_nil))) pa_nil)))
        (pg_tup rfl (pgs_cons (pg_name (i := 4) nd rfl (.inr rfl)) (pgs_cons (pg_name (i := 5) nd rfl (.inl rfl)) pgs_nil))))
      (pss_cons (ps_for PassesOwn.never rfl (pi_range1 (by rfl) T.z_range (pa_cons (pe_op op_mul (pe_call GT hr (by rfl) T.g_l_pinch T.F_l_pinch.kp T.b_l_pinch .nil pass0 (pa_cons (pv 0) (pa_cons (pe_op op_add (pv 2) pe_int) pa_nil)))
          (pe_callTy call_int1 (by rfl) T.z_int (by decide +kernel) (pa_cons (pe_cmpR op_gt (pe_callB call_lenK (by rfl) T.z_len PySem.boot_len (pa_cons (pv 1) pa_nil)) pe_int (nomark _)) pa_nil))) pa_nil)) (pg_name (i := 6) nd rfl (.inl rfl))
        (pss_cons (ps_setLc (i := 7) (own := [("_law_one", 8)]) (g := gName 8) (tt := tTest (tOp rNe (tVar 8) (tOp (rIxL K) (tVar 4) (tUn (rU fun i => .int (-i)) (tC (.int 1)))))) rfl nd rfl rfl (sw_true rfl rfl rfl (by decide +kernel))
            (pi_list (pe_ifExp (pt_cmpR op_gt (pe_callB call_lenK (by rfl) T.z_len PySem.boot_len (pa_cons (pv 3) pa_nil)) pe_int (nomark _)) (pv 3) (pv 1)))
            (blkOk_by (N := ["_law_tin_here", "_law_members", "_law_many", "_law_some", "_law_found", "_law_back", "_law_turn", "_law_others", "_law_one"]) (sc := defScope s_l_walk) (by decide +kernel)) (fun _ _ _ _ _ => pg_name (i := 8) nd rfl (.inl rfl))
            (fun _ _ _ _ _ => pts_one (pt_cmpR op_ne (pv 8) (pe_ix ix_list (pv 4) (pe_un un_neg pe_int) (fun _ _ => rfl)) (nomark _))) (fun _ _ _ _ _ => pv 8))
        (pss_one (ps_if (PW.pt (pw_and (pt_cmpR op_gt (pe_callB call_lenK (by rfl) T.z_len PySem.boot_len (pa_cons (pv 4) pa_nil)) pe_int (nomark _)) (pw_and1 (pt_cmpR op_lt (pe_call GT hr (by rfl) T.g_l_pinch T.F_l_pinch.kp T.b_l_pinch .nil pass0 (pa_cons (pv 0) (pa_cons pe_int pa_nil))) (pv 5) (nomark _)))))
          (pss_one (ps_expr (pe_bm PySem.F.plainAttrs_list PySem.F.slot_list_append PySem.F.type_list_append mt_append (pv 4) (pa_cons (pe_ix ix_list (pv 4) (pe_un un_neg pe_int) (fun _ _ => rfl)) pa_nil))))
          (pss_one (ps_expr (pe_bm PySem.F.plainAttrs_list PySem.F.slot_list_append PySem.F.type_list_append mt_append (pv 4) (pa_cons (pe_ix ix_list (pv 7) (pe_call GT hr (by rfl) T.g_l_pinch T.F_l_pinch.kp T.b_l_pinch .nil pass0 (pa_cons (pv 0) (pa_cons (pe_callB call_lenK (by rfl) T.z_len PySem.boot_len (pa_cons (pv 7) pa_nil)) pa_nil))) (fun _ _ => rfl)) pa_nil))))))))
      (pss_one (ps_ret (pv 4))))), ?_⟩
    -- some = ..
    refine asg_val (fun v H' => Keep [b] H H' ∧ Bag H' b (n + 1) ∧ ∃ s xs, v = .ref s ∧ H' s = some (.lst (sv xs)) ∧ s ≠ b ∧ SomeOf ms xs) (fun Q2 k2 => ?_) ?_
    · refine ⟨.ref a, rfl, .ref a, rfl, 2, rfl, a, sv ms, rfl, sqL ha, fun c1 nc1 => ?_⟩
      have s1 : Same H (upd H c1 (.lst (cutV (sv ms) none (some 2)))) := same_new nc1
      have e1 : (upd H c1 (.lst (cutV (sv ms) none (some 2)))) c1 = some (.lst (sv (ms.take 2))) := by
        rw [upd_same]
        have := cut_to (sv ms) 2
        rw [show ((2 : Nat) : Int) = 2 from rfl] at this
        rw [this]
        exact congrArg (fun z => some (HO.lst z)) List.map_take.symm
      generalize upd H c1 (.lst (cutV (sv ms) none (some 2))) = H1 at s1 e1
      refine ⟨.ref a, rfl, 3, rfl, _, rfl, a, sv ms, rfl, sqL (s1 _ _ ha), fun c2 nc2 => ?_⟩
      have s2 : Same H1 (upd H1 c2 (.lst (cutV (sv ms) (some (-3)) none))) := same_new nc2
      have e2 : (upd H1 c2 (.lst (cutV (sv ms) (some (-3)) none))) c2 = some (.lst (sv (ms.drop (ms.length - 3)))) := by
        rw [upd_same, cut_last3, List.length_map, sv_drop]
      have nc2' : H c2 = none := s1.free nc2
      generalize upd H1 c2 (.lst (cutV (sv ms) (some (-3)) none)) = H2 at s2 e2
      refine ⟨(by show 3 ≤ sizeLine; decide), fun l nl => ?_⟩
      have s3 : Same H2 (upd H2 l (.lst [.ref a, .ref c1, .ref c2])) := same_new nl
      have e3 : (upd H2 l (.lst [.ref a, .ref c1, .ref c2])) l = some (.lst [.ref a, .ref c1, .ref c2]) := upd_same
      generalize upd H2 l (.lst [.ref a, .ref c1, .ref c2]) = H3 at s3 e3
      have sA := s1.trans (s2.trans s3)
      have nbl : b ≠ l := (B.same (s1.trans s2)).ne nl
      refine ⟨.ref b, rfl, b, 3, n, rfl, by decide, by decide, B.same sA, by omega, fun H4 r k4 B4 r0 r3 => ?_⟩
      have kA : Keep [b] H H4 := (Keep.of_same sA).trans k4
      have nb1 : c1 ≠ b := Ne.symm (B.ne nc1)
      have nb2 : c2 ≠ b := Ne.symm (B.ne nc2')
      have a4 := kA _ _ ha (by simpa using nab)
      have c14 := k4 _ _ (s3 _ _ (s2 _ _ e1)) (by simpa using nb1)
      have c24 := k4 _ _ (s3 _ _ e2) (by simpa using nb2)
      have l4 := k4 _ _ e3 (by simpa using Ne.symm nbl)
      rcases (by omega : r = 0 ∨ r = 1 ∨ r = 2) with rfl | rfl | rfl
      · exact ⟨l, _, 0, .ref a, rfl, rfl, sqL l4, rfl, k2 _ _ ⟨kA, B4, a, ms, rfl, a4, nab, someOf_all M⟩⟩
      · exact ⟨l, _, 1, .ref c1, rfl, rfl, sqL l4, rfl, k2 _ _ ⟨kA, B4, c1, _, rfl, c14, nb1, someOf_take M⟩⟩
      · exact ⟨l, _, 2, .ref c2, rfl, rfl, sqL l4, rfl, k2 _ _ ⟨kA, B4, c2, _, rfl, c24, nb2, someOf_drop M⟩⟩
    rintro _ H1 ⟨k1, B1, s, xs, rfl, es1, nsb, S⟩
    -- found, back = ..
    have xl := S.lo
    have xh := S.hi
    refine ⟨.ref s, rfl, .ref b, rfl, .ref s, rfl, s, sv xs, rfl, .inl (sqL es1), b, _, n + 1, rfl, by rw [List.length_map]; omega, by rw [List.length_map]; omega, B1, by omega, fun H2 r k2 B2 r0 r1 => ?_⟩
    rw [List.length_map] at r1
    have hk : r.toNat < xs.length := by omega
    have ek : xs[r.toNat]? = some xs[r.toNat] := List.getElem?_eq_getElem hk
    have xm : xs[r.toNat] ∈ ms := S.sub _ (List.getElem_mem hk)
    generalize xs[r.toNat] = y at ek xm
    have es2 := k2 _ _ es1 (by simpa using nsb)
    refine ⟨s, sv xs, r, .str y, rfl, rfl, sqL es2, at_of (j := r.toNat) (by omega) (sv_get ek), (by show 1 ≤ sizeLine; decide), fun f nf => ?_⟩
    have s3 : Same H2 (upd H2 f (.lst [.str y])) := same_new nf
    have ef3 : (upd H2 f (.lst [.str y])) f = some (.lst (sv [y])) := upd_same
    generalize upd H2 f (.lst [.str y]) = H3 at s3 ef3
    have nfb : f ≠ b := Ne.symm (B2.ne nf)
    have nsf : s ≠ f := ne_of_none es2 nf
    have k12 := k1.trans k2
    have nfH : H f = none := k12.free nf (by simpa using nfb)
    refine ⟨.ref b, rfl, b, 4, n + 1 + 1, rfl, by decide, by decide, B2.same s3, by omega, fun H4 back k4 B4 _ _ => ?_⟩
    have ef4 := k4 _ _ ef3 (by simpa using nfb)
    have es4 := k4 _ _ (s3 _ _ es2) (by simpa using nsb)
    have kA4 := (k12.trans (Keep.of_same s3)).trans k4
    refine ⟨(by show 2 ≤ sizeLine; decide), fun o no => ⟨o, _, rfl, sqT upd_same, rfl, .ref f, [.int back], rfl, .int back, [], rfl, rfl, ?_⟩⟩
    have s5 : Same H4 (upd H4 o (.tup [.ref f, .int back])) := same_new no
    have ef5 := s5 _ _ ef4
    have es5 := s5 _ _ es4
    have B5 := B4.same s5
    have kA5 := kA4.trans (Keep.of_same s5)
    generalize upd H4 o (.tup [.ref f, .int back]) = H5 at s5 ef5 es5 B5 kA5
    -- the turns
    refine ⟨.ref b, rfl, .int many, rfl, _, _, rfl, rfl, b, (many : Int) + 1, n + 1 + 1 + 1, rfl, by omega, by omega, B5, by omega, fun H6 r6 k6 B6 q0 q1 => ?_⟩
    have kA6 := kA5.trans k6
    have ef6 := k6 _ _ ef5 (by simpa using nfb)
    have es6 := k6 _ _ es5 (by simpa using nsb)
    have ha6 := kA6 _ _ ha (by simpa using nab)
    refine ⟨.ref a, rfl, a, sv ms, rfl, .inl (sqL ha6), _, _, rfl, rfl, .inr ⟨_, rfl, _, _, rfl, rfl, .inr (by split <;> decide), _, rfl, ?_, ?_, ?_⟩⟩
    · split <;> omega
    · split <;> omega
    have hN : (r6 * (if decide ((1 : Int) < ((sv ms).length : Int)) = true then 1 else 0)).toNat ≤ many ∧ (0 < (r6 * (if decide ((1 : Int) < ((sv ms).length : Int)) = true then 1 else 0)).toNat → 2 ≤ ms.length) := by
      rw [List.length_map]
      by_cases z : (1 : Int) < (ms.length : Int)
      · rw [if_pos (decide_eq_true z)]
        exact ⟨by omega, fun _ => by omega⟩
      · rw [if_neg (by simpa using z)]
        exact ⟨by omega, fun w => by omega⟩
    generalize (r6 * (if decide ((1 : Int) < ((sv ms).length : Int)) = true then 1 else 0)).toNat = N at hN
    obtain ⟨hN1, hN2⟩ := hN
    refine for_it (walk_range (lo := 0) (n := N)) (fun t σ H7 => ∃ (h : List Str) (x6 x7 : Option V), σ = [some (.ref b), some (.ref a), some (.int many), some (.ref s), some (.ref f), some (.int back), x6, x7, none] ∧ Keep [b] H H7 ∧ Bag H7 b (n + 4 + 2 * t) ∧
      H7 f = some (.lst (sv h)) ∧ H7 s = some (.lst (sv xs)) ∧ Hist ms h ∧ h.length ≤ 1 + t) ?_ (fun _ _ _ _ _ => True.intro) ?_ ?_
    · exact ⟨[y], none, none, rfl, kA6, B6, ef6, es6, Hist.one xm, by simp⟩
    · rintro t x σ H7 H8 ht ⟨h, x6, x7, rfl, k7, B7, ef, es, g, hl⟩ ⟨rfl, rfl⟩
      have m2 := hN2 (by omega)
      have x2 := S.two m2
      obtain ⟨z, hz⟩ : ∃ z, h.getLast? = some z := ⟨_, List.getLast?_eq_getLast g.ne⟩
      -- others = ..
      refine ⟨.ref s, rfl, s, sv xs, rfl, .inl (sqL es), _, _, rfl, rfl, _, rfl, ?_⟩
      rw [decide_eq_true (show (1 : Int) < ((sv xs).length : Int) by rw [List.length_map]; omega)]
      refine iteT ⟨.ref s, rfl, s, rfl, ⟨_, sqL es⟩, fun o no => lc_it (walk_sv xs) (fun i H9 => Same H8 H9 ∧ H9 o = some (.lst (sv (oth (xs.take i) z)))) ⟨same_new no, upd_same⟩ (fun i H9 _ p => sqL (p.1 _ _ es)) ?_ ?_⟩
      · rintro i v H0 H9 hi ⟨s9, eo⟩ ⟨rfl, m, hm, rfl⟩
        refine ⟨rfl, .str m, rfl, .ref f, rfl, 1, rfl, f, sv h, -1, .str z, rfl, rfl, sqL (s9 _ _ ef), getLast_at hz, rfl, _, rfl, ?_⟩
        have eot : oth (xs.take (i + 1)) z = oth (xs.take i) z ++ (if m = z then [] else [m]) := by
          rw [take_snoc hm]
          unfold oth
          rw [List.filter_append]
          by_cases w : m = z <;> simp [w]
        by_cases w : m = z
        · rw [decide_eq_true (by rw [w])]
          refine iteF ⟨s9, ?_⟩
          rw [eot, if_pos w, List.append_nil]
          exact eo
        · rw [decide_eq_false (fun q => w (V.str.inj q))]
          refine iteT ⟨.str m, rfl, sv (oth (xs.take i) z), eo, ?_, same_mut s9 no, ?_⟩
          · have l1 : (oth (xs.take i) z).length ≤ (xs.take i).length := List.length_filter_le _ _
            rw [List.length_take] at l1
            rw [List.length_map]
            exact sz (by omega)
          · rw [upd_same, eot, if_neg w]; simp
      · rintro H9 ⟨s9, eo⟩
        rw [List.take_of_length_le (Nat.le_refl _)] at eo
        have ef9 := s9 _ _ ef
        have es9 := s9 _ _ es
        have k9 := k7.trans (Keep.of_same s9)
        have B9 := B7.same s9
        have nof : o ≠ f := fun w => by subst w; rw [ef] at no; cases no
        have nob : o ≠ b := Ne.symm (B7.ne no)
        have ho : oth xs z ≠ [] := oth_two S.nd x2
        have ol : 1 ≤ (oth xs z).length := by
          cases hq : oth xs z with
          | nil => exact absurd hq ho
          | cons _ _ => simp
        have ol2 : (oth xs z).length ≤ 12 := Nat.le_trans (List.length_filter_le _ _) xh
        unfold gName
        dsimp only
        unfold tIfS
        refine if_val (fun bb H10 => Keep [b] H9 H10 ∧ Bag H10 b (n + 4 + 2 * t + 1) ∧ (bb = true → 1 < h.length)) (fun R kR => ?_) ?_ ?_
        · refine ⟨.ref f, rfl, f, sv h, rfl, .inl (sqL ef9), _, _, rfl, rfl, _, rfl, ite2 (fun w => ?_) (fun w => ?_)⟩
          · have h2 : 1 < h.length := by have := of_decide_eq_true w; rw [List.length_map] at this; omega
            exact ⟨.ref b, rfl, b, 8, _, rfl, by decide, by decide, B9, by omega, fun H10 r k10 B10 _ _ => ⟨_, rfl, _, _, rfl, rfl, _, rfl, kR _ _ ⟨k10, B10, fun _ => h2⟩⟩⟩
          · exact kR _ _ ⟨Keep.refl _, B9.mono (by omega), fun w => by cases w⟩
        · rintro H10 ⟨k10, B10, h2⟩
          obtain ⟨u, u1, u2⟩ := last2 g hz (h2 rfl)
          obtain ⟨um, uz⟩ := mem_oth.mp u2
          have ef10 := k10 _ _ ef9 (by simpa using nfb)
          refine ⟨.ref f, rfl, .inl ⟨rfl, _, sqL ef10⟩, .ref f, rfl, 2, rfl, f, sv h, -2, .str u, rfl, rfl, sqL ef10, u1, f, sv h, .str u, rfl, rfl, ef10, ?_, ?_⟩
          · rw [List.length_map]
            exact sz (by omega)
          have e2 : sv h ++ [V.str u] = sv (h ++ [u]) := by simp
          rw [e2]
          refine ⟨h ++ [u], _, _, rfl, keep_mut (k9.trans k10) nfH, (B10.keep (W := [f]) (keep_upd (by simp)) (by simpa using Ne.symm nfb)).mono (by omega), upd_same, ?_, g.snoc hz um uz, by rw [List.length_append, List.length_singleton]; omega⟩
          rw [upd_ne nsf]
          exact k10 _ _ es9 (by simpa using nsb)
        · rintro H10 ⟨k10, B10, _⟩
          have ef10 := k10 _ _ ef9 (by simpa using nfb)
          have eo10 := k10 _ _ eo (by simpa using nob)
          refine ⟨.ref f, rfl, .inl ⟨rfl, _, sqL ef10⟩, .ref o, rfl, .ref b, rfl, .ref o, rfl, o, sv (oth xs z), rfl, .inl (sqL eo10), b, _, _, rfl, by rw [List.length_map]; omega, by rw [List.length_map]; omega, B10, by omega, fun H11 r k11 B11 r0 r1 => ?_⟩
          rw [List.length_map] at r1
          have hk : r.toNat < (oth xs z).length := by omega
          have ek : (oth xs z)[r.toNat]? = some (oth xs z)[r.toNat] := List.getElem?_eq_getElem hk
          have um := List.getElem_mem hk
          generalize (oth xs z)[r.toNat] = u at ek um
          obtain ⟨um, uz⟩ := mem_oth.mp um
          have ef11 := k11 _ _ ef10 (by simpa using nfb)
          have eo11 := k11 _ _ eo10 (by simpa using nob)
          refine ⟨o, sv (oth xs z), r, .str u, rfl, rfl, sqL eo11, at_of (j := r.toNat) (by omega) (sv_get ek), f, sv h, .str u, rfl, rfl, ef11, ?_, ?_⟩
          · rw [List.length_map]
            exact sz (by omega)
          have e2 : sv h ++ [V.str u] = sv (h ++ [u]) := by simp
          rw [e2]
          refine ⟨h ++ [u], _, _, rfl, keep_mut ((k9.trans k10).trans k11) nfH, (B11.keep (W := [f]) (keep_upd (by simp)) (by simpa using Ne.symm nfb)).mono (by omega), upd_same, ?_, g.snoc hz (S.sub _ um) uz, by rw [List.length_append, List.length_singleton]; omega⟩
          rw [upd_ne nsf]
          exact k11 _ _ (k10 _ _ es9 (by simpa using nsb)) (by simpa using nsb)
    · rintro σ H7 ⟨h, x6, x7, rfl, k7, B7, ef, es, g, hl⟩
      exact ⟨.ref f, rfl, q _ f h k7 (B7.mono (by omega)) nfH ef g (by omega)⟩
end
/-! ### rings -/
def ltS (a b : Str) : Prop := a.cps.toList < b.cps.toList
theorem asc_pair : ∀ {l : List Str}, (∀ (i : Nat) (x y : Str), l[i]? = some x → l[i + 1]? = some y → x.cps.toList < y.cps.toList) → l.Pairwise ltS
  | [], _ => .nil
  | [x], _ => List.pairwise_singleton _ _
  | x :: y :: r, h => by
    have ih := asc_pair (l := y :: r) fun i a b h1 h2 => h (i + 1) a b h1 h2
    have xy : ltS x y := h 0 x y rfl rfl
    refine List.pairwise_cons.mpr ⟨fun z hz => ?_, ih⟩
    rcases List.mem_cons.mp hz with rfl | hz
    · exact xy
    · exact List.lt_trans xy (List.rel_of_pairwise_cons ih hz)
theorem sorted_is {ys es : List Str} (hp : ys.Perm es) (hs : sortedS ys = true) (ha : es.Pairwise ltS) (nd : es.Nodup) : ys = es := by
  have h1 := asc_pair (sorted_asc hs (hp.nodup_iff.mpr nd))
  exact List.Perm.eq_of_pairwise (fun a b _ _ h1 h2 => absurd h2 (List.lt_asymm h1)) h1 ha hp
/-- what a search may give: None or a new list -/
def Gives (o : Option (List Str)) (H : Hp) (Q : VK) : Prop := ∀ H', Same H H' → (o = none → Q .non H') ∧ ∀ r l, o = some r → H l = none → H' l = some (.lst (sv r)) → Q (.ref l) H'
theorem Gives.same {o : Option (List Str)} {H H1 : Hp} {Q : VK} (g : Gives o H Q) (s : Same H H1) : Gives o H1 Q := fun H' s' => ⟨(g H' (s.trans s')).1, fun r l e nl el => (g H' (s.trans s')).2 r l e (s.free nl) el⟩
def ringAt (es : List Str) (g : Str → Str) (m : Str) : Option (List Str) := run (fun x => x ∈ es) g m es.length [m] m
def ringOf (ms : List Str) (p : Str) (f : Str → List Str) : Option (List Str) := (ents ms p f).findSome? (ringAt (ents ms p f) fun m => hd1 (f m))
def spRingAt : Sp := fun vs H Q _ => ∃ (d : Addr) (es : List Str) (g : Str → Str) (m : Str), vs = [.ref d, .str m] ∧ H d = some (.dK (mkd es fun x => .str (g x))) ∧ es.length ≤ 12 ∧ Gives (ringAt es g m) H Q
def spLeast : Sp := fun vs H Q _ => ∃ (d : Addr) (es : List Str) (g : Str → Str), vs = [.ref d] ∧ H d = some (.dK (mkd es fun x => .str (g x))) ∧ es.length ≤ 12 ∧ es.Nodup ∧ es.Pairwise ltS ∧ Gives (es.findSome? (ringAt es g)) H Q
def spRingOf : Sp := fun vs H Q _ => ∃ (a d : Addr) (ms ks : List Str) (ad : Str → Addr) (f : Str → List Str) (p : Str), vs = [.ref a, .str p, .ref d] ∧ H a = some (.lst (sv ms)) ∧ DL H d ks ad f ∧ Members ms ∧ ListsOf ms ks f ∧ p ∈ ms ∧ Gives (ringOf ms p f) H Q
section
variable {P : Program} {w : World} {K : PySem.W.Frag} {mg : Str → Option Value} {base : Heap} (T : Txt K mg)
theorem ok_ring_at : FnOk P w K mg base CX0 1 T.f_ring_at T.fd_ring_at ["starts", "member"] spRingAt := by
  refine T.F_ring_at.ok sc_ring_at (fun vs H Q E h => ?_) (fun cdv A outer s H vs Q E hr h => ?_)
  · obtain ⟨d, es, g, m, rfl, _⟩ := h
    rfl
  · obtain ⟨d, es, g, m0, rfl, hd, hl, q⟩ := h
    have nd := sc_ring_at.nd
    have hu := hu_of hr
    refine ⟨_, pss_cons (ps_set (i := 2) nd rfl (.inl rfl) (pe_lst (pa_cons (pv 1) pa_nil)))
      (pss_cons (ps_while PassesOwn.never (PW.pt (pw_and (pt_cmp (pc_din hu (pe_ix ix_list (pv 2) (pe_un un_neg pe_int) (fun _ _ => rfl)) (pv 0))) (pw_and1 (pt_cmpR op_le (pe_callB call_lenK (by rfl) T.z_len PySem.boot_len (pa_cons (pv 2) pa_nil)) (pe_callB call_lenD (by rfl) T.z_len PySem.boot_len (pa_cons (pv 0) pa_nil)) (nomark _)))))
        (pss_cons (ps_set (i := 3) nd rfl (.inl rfl) (pe_dget hu (pv 0) (pe_ix ix_list (pv 2) (pe_un un_neg pe_int) (fun _ _ => rfl)) (fun _ _ => rfl)))
        (pss_cons (ps_if (pt_cmpR op_eq (pv 3) (pv 1) (nomark _)) (pss_one (ps_ret (pv 2))) pss_nil)
        (pss_one (ps_expr (pe_bm PySem.F.plainAttrs_list PySem.F.slot_list_append PySem.F.type_list_append mt_append (pv 2) (pa_cons (pv 3) pa_nil)))))))
      (pss_one (ps_ret pe_non))), ?_⟩
    refine ⟨.str m0, rfl, (by show 1 ≤ sizeLine; decide), fun l nl => ?_⟩
    refine ⟨fun k σ H1 => ∃ (found : List Str) (here : Str) (x3 : Option V), σ = [some (.ref d), some (.str m0), some (.ref l), x3] ∧ Same H H1 ∧ H1 l = some (.lst (sv found)) ∧ found.getLast? = some here ∧ k + found.length = es.length + 1 ∧
      run (fun x => x ∈ es) g m0 k found here = ringAt es g m0, ⟨es.length, [m0], m0, none, rfl, same_new nl, upd_same, rfl, rfl, rfl⟩, ?_⟩
    rintro k σ H1 ⟨found, here, x3, rfl, s1, el, hg, hk, hrun⟩
    have hd1' := s1 _ _ hd
    have dg : DGet H1 d (.str here) (valV (mkd es fun x => .str (g x)) (Sum.inr here)) := DGet.k (k := Sum.inr here) hd1'
    obtain ⟨q1, q2⟩ := q H1 s1
    refine ⟨.ref l, rfl, 1, rfl, l, sv found, -1, .str here, rfl, rfl, sqL el, getLast_at hg, .ref d, rfl, d, _, rfl, dg, ?_⟩
    by_cases he : here ∈ es
    · rw [mkd_val he] at dg ⊢
      refine ⟨true, rfl, iteT ⟨.ref l, rfl, l, sv found, rfl, .inl (sqL el), .ref d, rfl, d, _, rfl, hd1', _, _, rfl, rfl, _, rfl, ?_⟩⟩
      cases k with
      | zero =>
        rw [decide_eq_false (show ¬ (((sv found).length : Int) ≤ ((mkd es fun x => V.str (g x)).length : Int)) by rw [mkd_len, List.length_map]; omega)]
        refine iteF (q1 ?_)
        rw [← hrun]
        rfl
      | succ k =>
        rw [decide_eq_true (show (((sv found).length : Int) ≤ ((mkd es fun x => V.str (g x)).length : Int)) by rw [mkd_len, List.length_map]; omega)]
        unfold GF.run at hrun
        rw [if_pos he] at hrun
        refine iteT ⟨fun σ' H' => ∃ (found : List Str) (here : Str) (x3 : Option V), σ' = [some (.ref d), some (.str m0), some (.ref l), x3] ∧ Same H H' ∧ H' l = some (.lst (sv found)) ∧ found.getLast? = some here ∧ k + found.length = es.length + 1 ∧
          run (fun x => x ∈ es) g m0 k found here = ringAt es g m0, fun σ' H' n => ⟨k, Nat.lt_succ_self k, n⟩, ?_⟩
        refine ⟨.ref d, rfl, .ref l, rfl, 1, rfl, l, sv found, -1, .str here, rfl, rfl, sqL el, getLast_at hg, d, _, rfl, dg, ?_⟩
        refine ⟨.str (g here), rfl, .str m0, rfl, rfl, _, rfl, ?_⟩
        by_cases z : g here = m0
        · rw [decide_eq_true (by rw [z])]
          rw [if_pos z] at hrun
          exact iteT ⟨.ref l, rfl, q2 found l hrun.symm nl el⟩
        · rw [decide_eq_false (fun y => z (V.str.inj y))]
          rw [if_neg z] at hrun
          refine iteF ⟨.ref l, rfl, .inl ⟨rfl, _, sqL el⟩, .str (g here), rfl, l, sv found, _, rfl, rfl, el, ?_, ?_⟩
          · rw [List.length_map]
            exact sz (by omega)
          · refine ⟨found ++ [g here], g here, _, rfl, same_mut s1 nl, ?_, by simp, by rw [List.length_append, List.length_singleton]; omega, hrun⟩
            rw [upd_same]
            simp
    · rw [mkd_none he]
      refine ⟨false, rfl, iteF (iteF (q1 ?_))⟩
      rw [← hrun]
      cases k with
      | zero => rfl
      | succ k => unfold GF.run; rw [if_neg he]
theorem ok_least_ring : FnOk P w K mg base CX0 2 T.f_least_ring T.fd_least_ring ["starts"] spLeast := by
  have G1 : FnOk P w K mg base CX0 1 T.f_ring_at T.fd_ring_at ["starts", "member"] spRingAt := ok_ring_at T
  refine T.F_least_ring.ok sc_least_ring (fun vs H Q E h => ?_) (fun cdv A outer s H vs Q E hr h => ?_)
  · obtain ⟨d, es, g, rfl, _⟩ := h
    rfl
  · obtain ⟨d, es, g, rfl, hd, hl, nde, asc, q⟩ := h
    have nd := sc_least_ring.nd
    refine ⟨_, pss_cons (ps_for PassesOwn.never rfl (pi_list (pe_callB (call_sortedD rfl) (by rfl) T.z_sorted (by decide +kernel) (pa_cons (pv 0) pa_nil))) (pg_name (i := 1) nd rfl (.inl rfl))
        (pss_cons (ps_set (i := 2) nd rfl (.inl rfl) (pe_call G1 hr (by rfl) T.g_ring_at T.F_ring_at.kp T.b_ring_at .nil pass0 (pa_cons (pv 0) (pa_cons (pv 1) pa_nil))))
        (pss_one (ps_if (pt_cmpR op_notN (pv 2) pe_non (nomark _)) (pss_one (ps_ret (pv 2))) pss_nil))))
      (pss_one (ps_ret pe_non)), ?_⟩
    refine ⟨.ref d, rfl, d, _, es, rfl, .inl hd, by simp [mkd], by omega, fun ys c pm srt nc => ?_⟩
    obtain rfl : ys = es := sorted_is pm srt asc nde
    refine ⟨c, rfl, ⟨_, sqL upd_same⟩, ?_⟩
    refine for_it (walk_sv ys) (fun i σ H1 => ∃ x1 x2, σ = [some (.ref d), x1, x2] ∧ Same H H1 ∧ H1 c = some (.lst (sv ys)) ∧ (ys.drop i).findSome? (ringAt ys g) = ys.findSome? (ringAt ys g)) ⟨none, none, rfl, same_new nc, upd_same, rfl⟩ (fun i σ H1 _ p => by obtain ⟨x1, x2, _, _, e, _⟩ := p; exact sqL e) ?_ ?_
    · rintro i v σ H2 H1 hi ⟨x1, x2, rfl, s1, ec, hf⟩ ⟨rfl, m, hm, rfl⟩
      have hdr : ys.drop i = m :: ys.drop (i + 1) := by
        obtain ⟨h1, h2⟩ := List.getElem?_eq_some_iff.mp hm
        rw [List.drop_eq_getElem_cons h1, h2]
      rw [hdr, List.findSome?_cons] at hf
      refine ⟨_, rfl, _, rfl, d, ys, g, m, rfl, s1 _ _ hd, hl, fun H3 s3 => ⟨fun e => ?_, fun r l e nl el => ?_⟩⟩
      · rw [e] at hf
        refine ⟨_, rfl, rfl, _, rfl, ?_⟩
        rw [decide_eq_true rfl]
        exact iteF ⟨_, _, rfl, s1.trans s3, s3 _ _ ec, hf⟩
      · rw [e] at hf
        refine ⟨_, rfl, rfl, _, rfl, ?_⟩
        rw [decide_eq_false (fun z => by cases z)]
        exact iteT ⟨_, rfl, (q H3 (s1.trans s3)).2 r l hf.symm (s1.free nl) el⟩
    · rintro σ H1 ⟨x1, x2, rfl, s1, ec, hf⟩
      rw [List.drop_of_length_le (Nat.le_refl _)] at hf
      exact (q H1 s1).1 hf.symm
theorem ents_asc {ms : List Str} {p : Str} {f : Str → List Str} (M : Members ms) : (ents ms p f).Pairwise ltS := (asc_pair M.asc).filter _
theorem ok_ring_of : FnOk P w K mg base CX0 5 T.f_ring_of T.fd_ring_of ["members", "first", "lists"] spRingOf := by
  have G4 : FnOk P w K mg base CX0 4 T.f_need_lists T.fd_need_lists ["members", "first", "lists"] spNeedLists := ok_need_lists T
  have G1 : FnOk P w K mg base CX0 1 T.f_starts_of T.fd_starts_of ["members", "first", "lists"] spStarts := ok_starts_of T
  have G2 : FnOk P w K mg base CX0 2 T.f_least_ring T.fd_least_ring ["starts"] spLeast := ok_least_ring T
  refine T.F_ring_of.ok sc_ring_of (fun vs H Q E h => ?_) (fun cdv A outer s H vs Q E hr h => ?_)
  · obtain ⟨a, d, ms, ks, ad, f, p, rfl, _⟩ := h
    rfl
  · obtain ⟨a, d, ms, ks, ad, f, p, rfl, ha, dl, M, L, hp, q⟩ := h
    have hr1 : Room 1 _ := hr.mono (by decide)
    have hr2 : Room 2 _ := hr.mono (by decide)
    refine ⟨_, pss_cons (ps_expr (pe_call G4 hr (by rfl) T.g_need_lists T.F_need_lists.kp T.b_need_lists .nil pass0 (pa_cons (pv 0) (pa_cons (pv 1) (pa_cons (pv 2) pa_nil)))))
      (pss_one (ps_ret (pe_call G2 hr2 (by rfl) T.g_least_ring T.F_least_ring.kp T.b_least_ring .nil pass0 (pa_cons (pe_call G1 hr1 (by rfl) T.g_starts_of T.F_starts_of.kp T.b_starts_of .nil pass0 (pa_cons (pv 0) (pa_cons (pv 1) (pa_cons (pv 2) pa_nil)))) pa_nil)))), ?_⟩
    refine ⟨_, rfl, _, rfl, _, rfl, a, d, ms, ks, ad, f, p, rfl, ha, dl, M, L, hp, fun H1 s1 => ⟨_, rfl, _, rfl, _, rfl, a, d, ms, ks, ad, f, p, rfl, s1 _ _ ha, dl.same s1, M, L, hp, fun H2 r s2 nr er => ?_⟩⟩
    exact ⟨r, ents ms p f, fun m => hd1 (f m), rfl, er, Nat.le_trans (List.length_filter_le _ _) M.hi, M.nd.filter _, ents_asc M, q.same (s1.trans s2)⟩
end
/-! ### known lists, any lists -/
def spKnown : Sp := fun vs H Q _ => ∃ (b a d : Addr) (ms : List Str) (ad : Str → Addr) (f : Str → List Str) (n : Nat), vs = [.ref b, .ref a, .ref d] ∧ H a = some (.lst (sv ms)) ∧ DL H d ms ad f ∧ a ≠ b ∧ d ≠ b ∧ (∀ m ∈ ms, ad m ≠ b) ∧ Members ms ∧ (∀ m ∈ ms, (f m).length ≤ 1000) ∧ Bag H b n ∧ n ≤ 800000000 ∧
  ∀ H' r ks ae f', Keep [b] H H' → Bag H' b (n + 60) → H r = none → DL H' r ks ae f' → (∀ m ∈ ks, H (ae m) = none) → ks.Perm ms → (∀ m ∈ ms, ∃ j, f' m = (f m).take j) → Q (.ref r) H'
/-- a dict of lists gets one more list -/
theorem DL.put {H H1 : Hp} {r l : Addr} {zs : List Str} {ae : Str → Addr} {f : Str → List Str} {m : Str} {x : List Str} (h : DL H r zs ae f) (hm : m ∉ zs) (hr : H1 r = some (.dK (mkv zs ae))) (st : ∀ y ∈ zs, H1 (ae y) = some (.lst (sv (f y)))) (el : H1 l = some (.lst (sv x))) (nlr : l ≠ r) (nr : ∀ y ∈ zs, ae y ≠ r) :
    DL (L2.upd H1 r (.dK (putK (mkv zs ae) (Sum.inr m) (.ref l)))) r (zs ++ [m]) (pad ae m l) (GF.put f m x) := by
  have ne : ∀ y ∈ zs, y ≠ m := fun y hy z => hm (z ▸ hy)
  refine ⟨?_, fun y hy => ?_⟩
  · rw [upd_same, mkd_snoc (v' := fun y => .ref (pad ae m l y)) hm (fun y hy => by rw [pad_ne (ne y hy)]) (by rw [pad_same])]
  · rcases List.mem_append.mp hy with hy | hy
    · rw [pad_ne (ne y hy), put_ne (ne y hy), upd_ne (nr y hy)]
      exact st y hy
    · cases List.mem_singleton.mp hy
      rw [pad_same, put_same, upd_ne nlr]
      exact el
section
variable {P : Program} {w : World} {K : PySem.W.Frag} {mg : Str → Option Value} {base : Heap} (T : Txt K mg)
theorem ok_known : FnOk P w K mg base CX0 3 T.f_l_known T.fd_l_known ["_law_tin_here", "_law_members", "_law_lists_here"] spKnown := by
  have GT : FnOk P w K mg base CX0 1 T.f_l_pinch T.fd_l_pinch ["_law_tin_here", "_law_many"] spPinch := ok_pinch T
  have GS : FnOk P w K mg base CX0 2 T.f_l_shuffled T.fd_l_shuffled ["_law_tin_here", "_law_things"] spShuf := ok_shuffled T
  refine T.F_l_known.ok sc_l_known (fun vs H Q E h => ?_) (fun cdv A outer s H vs Q E hr h => ?_)
  · obtain ⟨b, a, d, ms, ad, f, n, rfl, _⟩ := h
    rfl
  · obtain ⟨b, a, d, ms, ad, f, n, rfl, ha, dl, nab, ndb, nadb, M, hf, B, hn, q⟩ := h
    have nd := sc_l_known.nd
    have hu := hu_of hr
    have hr1 : Room 1 _ := hr.mono (by decide)
    refine ⟨_, pss_cons (ps_set (i := 3) nd rfl (.inl rfl) pe_dnewK)
      (pss_cons (ps_for PassesOwn.never rfl (pi_list (pe_call GS hr (by rfl) T.g_l_shuffled T.F_l_shuffled.kp T.b_l_shuffled .nil pass0 (pa_cons (pv 0) (pa_cons (pv 1) pa_nil)))) (pg_name (i := 4) nd rfl (.inl rfl))
        (pss_cons (ps_set (i := 5) nd rfl (.inl rfl) (pe_callB call_lenK (by rfl) T.z_len PySem.boot_len (pa_cons (pe_dget hu (pv 2) (pv 4) (fun _ _ => rfl)) pa_nil)))
        (pss_cons (ps_set (i := 6) nd rfl (.inl rfl) (pe_lst (pa_cons (pv 5) (pa_cons (pe_op op_sub (pv 5) (pe_call GT hr1 (by rfl) T.g_l_pinch T.F_l_pinch.kp T.b_l_pinch .nil pass0 (pa_cons (pv 0) (pa_cons (pe_op op_add (pe_callB (call_min2 rfl) (by rfl) T.z_min (by decide +kernel) (pa_cons (pv 5) (pa_cons pe_int pa_nil))) pe_int) pa_nil))))
          (pa_cons (pe_call GT hr1 (by rfl) T.g_l_pinch T.F_l_pinch.kp T.b_l_pinch .nil pass0 (pa_cons (pv 0) (pa_cons (pe_op op_add (pv 5) pe_int) pa_nil))) (pa_cons pe_int pa_nil))))))
        (pss_one (ps_dput hu (pv 3) (pv 4) (pe_slice sl_list (pe_dget hu (pv 2) (pv 4) (fun _ _ => rfl)) po_none (po_some (pe_ix ix_list (pv 6) (pe_call GT hr1 (by rfl) T.g_l_pinch T.F_l_pinch.kp T.b_l_pinch .nil pass0 (pa_cons (pv 0) (pa_cons pe_int pa_nil))) (fun _ _ => rfl)))) rfl)))))
      (pss_one (ps_ret (pv 3)))), ?_⟩
    intro r nr
    have nrb : r ≠ b := Ne.symm (B.ne nr)
    have s0 : Same H (upd H r (.dK [])) := same_new nr
    have er0 : (upd H r (.dK [])) r = some (.dK []) := upd_same
    generalize upd H r (.dK []) = H0 at s0 er0
    have mhi := M.hi
    refine ⟨.ref b, rfl, .ref a, rfl, b, a, ms, n, rfl, s0 _ _ ha, nab, by omega, B.same s0, by omega, fun H1 c ks k1 B1 nc ec pk => ⟨c, rfl, ⟨_, sqL ec⟩, ?_⟩⟩
    have ndk : ks.Nodup := pk.nodup_iff.mpr M.nd
    have lk : ks.length ≤ 12 := by rw [pk.length_eq]; exact mhi
    have ncb : c ≠ b := Ne.symm ((B.same s0).ne nc)
    have er1 := k1 _ _ er0 (by simpa using nrb)
    have ncr : c ≠ r := ne_of ec er1 (fun z => by cases z)
    refine for_it (walk_sv ks) (fun i σ H2 => ∃ (x4 x5 x6 : Option V) (ae : Str → Addr) (f' : Str → List Str), σ = [some (.ref b), some (.ref a), some (.ref d), some (.ref r), x4, x5, x6] ∧ Keep [b] H H2 ∧ Bag H2 b (n + 12 + 3 * i) ∧ H2 c = some (.lst (sv ks)) ∧ DL H2 r (ks.take i) ae f' ∧
      (∀ m ∈ ks.take i, H (ae m) = none ∧ ae m ≠ b ∧ ae m ≠ r) ∧ (∀ m ∈ ks.take i, ∃ j, f' m = (f m).take j)) ?_ (fun i σ H2 _ p => by obtain ⟨x4, x5, x6, ae, f', _, _, _, e, _⟩ := p; exact sqL e) ?_ ?_
    · exact ⟨none, none, none, fun _ => r, fun _ => [], rfl, (Keep.of_same s0).trans k1, B1.mono (by omega), ec, ⟨er1, fun _ z => (by cases z)⟩, fun _ z => (by cases z), fun _ z => (by cases z)⟩
    · rintro i v σ H3 H2 hi ⟨x4, x5, x6, ae, f', rfl, k2, B2, ec2, dl2', hs, hj⟩ ⟨rfl, m, hm, rfl⟩
      have mk := List.mem_of_getElem? hm
      have mm : m ∈ ms := pk.mem_iff.mp mk
      have mno := not_take ndk hm
      have dl2 := dl.keep k2 (by simpa using ndb) (fun y hy => by simpa using nadb y hy)
      have lf := hf m mm
      have lsv : (sv (f m)).length = (f m).length := List.length_map _
      refine ⟨.ref d, rfl, .str m, rfl, d, .ref (ad m), rfl, dl2.get mm, ad m, sv (f m), rfl, .inl (sqL (dl2.at_ m mm)), ?_⟩
      refine ⟨_, rfl, _, rfl, .ref b, rfl, _, rfl, _, _, rfl, _, _, rfl, rfl, b, _, _, rfl, ?_, ?_, B2, by omega, fun H4 r1 k4 B4 q0 q1 => ?_⟩
      · split <;> omega
      · split <;> omega
      have q2 : r1 ≤ ((sv (f m)).length : Int) := by
        split at q1 <;> omega
      refine ⟨_, _, rfl, rfl, .ref b, rfl, _, rfl, _, _, rfl, rfl, b, _, _, rfl, by omega, by omega, B4, by omega, fun H5 r2 k5 B5 p0 p1 => ⟨(by show 4 ≤ sizeLine; decide), fun o no => ?_⟩⟩
      have nbo : o ≠ b := Ne.symm (B5.ne no)
      have k25 := k2.trans (k4.trans k5)
      have dl5 := dl.keep k25 (by simpa using ndb) (fun y hy => by simpa using nadb y hy)
      generalize hJ : ([.int ((sv (f m)).length : Int), .int (((sv (f m)).length : Int) - r1), .int r2, .int 0] : List V) = J
      have hjj : ∀ r3 : Int, 0 ≤ r3 → r3 < 4 → ∃ j : Nat, atI J r3 = some (.int (j : Int)) := by
        intro r3 u0 u1
        rw [← hJ]
        rcases (by omega : r3 = 0 ∨ r3 = 1 ∨ r3 = 2 ∨ r3 = 3) with rfl | rfl | rfl | rfl
        · exact ⟨(sv (f m)).length, rfl⟩
        · refine ⟨(((sv (f m)).length : Int) - r1).toNat, ?_⟩
          rw [Int.toNat_of_nonneg (by omega)]
          rfl
        · refine ⟨r2.toNat, ?_⟩
          rw [Int.toNat_of_nonneg p0]
          rfl
        · exact ⟨0, rfl⟩
      have s6 : Same H5 (upd H5 o (.lst J)) := same_new no
      have eo6 : (upd H5 o (.lst J)) o = some (.lst J) := upd_same
      generalize hH6 : upd H5 o (.lst J) = H6 at s6 eo6
      have B6 := B5.same s6
      have dl6 := dl5.same s6
      refine ⟨.ref d, rfl, .str m, rfl, d, .ref (ad m), rfl, dl6.get mm, .ref o, rfl, .ref b, rfl, b, 4, _, rfl, by decide, by decide, B6, by omega, fun H7 r3 k7 B7 u0 u1 => ?_⟩
      obtain ⟨j, ej⟩ := hjj r3 u0 u1
      have eo7 := k7 _ _ eo6 (by simpa using nbo)
      have k27 := (k25.trans (Keep.of_same s6)).trans k7
      have dl7 := dl.keep k27 (by simpa using ndb) (fun y hy => by simpa using nadb y hy)
      refine ⟨o, J, r3, .int (j : Int), rfl, rfl, sqL eo7, ej, _, rfl, ad m, sv (f m), rfl, sqL (dl7.at_ m mm), fun l nl => ?_⟩
      have nlb : l ≠ b := Ne.symm (B7.ne nl)
      have s8 : Same H7 (upd H7 l (.lst (cutV (sv (f m)) none (some (j : Int))))) := same_new nl
      have el8 : (upd H7 l (.lst (cutV (sv (f m)) none (some (j : Int))))) l = some (.lst (sv ((f m).take j))) := by
        rw [upd_same, cut_to]
        exact congrArg (fun z => some (HO.lst z)) List.map_take.symm
      generalize upd H7 l (.lst (cutV (sv (f m)) none (some (j : Int)))) = H8 at s8 el8
      -- from H2 to H8
      have k28 : Keep [b] H2 H8 := (((k4.trans k5).trans (Keep.of_same s6)).trans k7).trans (Keep.of_same s8)
      have er8 := k28 _ _ dl2'.dict (by simpa using nrb)
      have nlr : l ≠ r := ne_of el8 er8 (fun z => by cases z)
      have nlH : H l = none := k27.free nl (by simpa using nlb)
      refine ⟨.ref r, rfl, .str m, rfl, r, _, rfl, DPut.k (k := Sum.inr m) er8 ?_, ?_⟩
      · rw [mkd_len, List.length_take]
        exact sz (by omega)
      refine ⟨_, _, _, pad ae m l, GF.put f' m ((f m).take j), rfl, keep_mut (k27.trans (Keep.of_same s8)) nr, ?_, ?_, ?_, ?_, ?_⟩
      · exact ((B7.same s8).keep (W := [r]) (keep_upd (by simp)) (by simpa using Ne.symm nrb)).mono (by omega)
      · rw [upd_ne ncr]
        exact k28 _ _ ec2 (by simpa using ncb)
      · rw [take_snoc hm]
        exact DL.put dl2' mno er8 (fun y hy => k28 _ _ (dl2'.at_ y hy) (by simpa using (hs y hy).2.1)) el8 nlr fun y hy => (hs y hy).2.2
      · intro y hy
        rw [take_snoc hm] at hy
        rcases List.mem_append.mp hy with hy | hy
        · rw [pad_ne (fun z => mno (by rw [← z]; exact hy))]
          exact hs y hy
        · cases List.mem_singleton.mp hy
          rw [pad_same]
          exact ⟨nlH, nlb, nlr⟩
      · intro y hy
        rw [take_snoc hm] at hy
        rcases List.mem_append.mp hy with hy | hy
        · rw [put_ne (fun z => mno (by rw [← z]; exact hy))]
          exact hj y hy
        · cases List.mem_singleton.mp hy
          rw [put_same]
          exact ⟨j, rfl⟩
    · rintro σ H2 ⟨x4, x5, x6, ae, f', rfl, k2, B2, ec2, dl2', hs, hj⟩
      rw [List.take_of_length_le (Nat.le_refl _)] at dl2' hs hj
      exact ⟨_, rfl, q _ r ks ae f' k2 (B2.mono (by omega)) nr dl2' (fun m hm => (hs m hm).1) pk fun m hm => hj m (pk.mem_iff.mpr hm)⟩
end
/-- dict([(m, []) for m in e]) where e gives the list at a -/
theorem dict_listsC {K : PySem.W.Frag} {σ : L2.St} {H : Hp} {Q : VK} {j : Nat} {a : Addr} {ms : List Str} (hj : j < σ.length) (ha : H a = some (.lst (sv ms))) (nd : ms.Nodup) (hl : ms.length ≤ 1000)
    (q : ∀ H' d ad, Same H H' → DN H H' d ms ad (fun _ => []) → Q (.ref d) H') :
    tCB (rDictP K) (tCons (tLc (iList K (tC (.ref a))) (gName j) tYes (tTup (tCons (tVar j) (tCons (tLst tNil) tNil))) [j]) tNil) σ H Q := by
  refine ⟨a, rfl, ⟨_, sqL ha⟩, fun D nD => lc_it (walk_sv ms) (fun i H1 => Same H H1 ∧ ∃ (ps : List Addr) (ad : Str → Addr), H1 D = some (.lst (ps.map V.ref)) ∧ Paired (fun p m => H1 p = some (.tup [.str m, .ref (ad m)])) ps (ms.take i) ∧
      (∀ m ∈ ms.take i, H1 (ad m) = some (.lst []) ∧ H (ad m) = none ∧ ad m ≠ D) ∧ (∀ x ∈ ms.take i, ∀ y ∈ ms.take i, ad x = ad y → x = y)) ?_ (fun i H1 _ p => sqL (p.1 _ _ ha)) ?_ ?_⟩
  · exact ⟨same_new nD, [], fun _ => D, upd_same, .nil, fun _ z => (by cases z), fun _ z => (by cases z)⟩
  · rintro t x H0 H1 ht ⟨s1, ps, ad, eD, pr, hn, inj⟩ ⟨rfl, m, hm, rfl⟩
    have mno := not_take nd hm
    have mne : ∀ y ∈ ms.take t, y ≠ m := fun y hy z => mno (by rw [← z]; exact hy)
    have pl : ps.length = t := by rw [pr.length, List.length_take]; omega
    refine ⟨wipe1 _ _ _, .str m, by simp [wipe, List.getElem?_set, hj], Nat.zero_le _, fun l nl => ?_⟩
    refine ⟨(by show 2 ≤ sizeLine; decide), fun o no => ⟨ps.map V.ref, ?_, ?_, ?_, ps ++ [o], pad ad m l, ?_, ?_, ?_, ?_⟩⟩
    · rw [upd_ne (ne_of_none (same_new nl _ _ eD) no), upd_ne (ne_of_none eD nl)]
      exact eD
    · rw [List.length_map, pl]
      exact sz (by omega)
    · exact same_mut ((s1.trans (same_new nl)).trans (same_new no)) nD
    · rw [upd_same, List.map_append]; rfl
    · -- the pairs
      have nlo : l ≠ o := fun z => by subst z; rw [upd_same] at no; cases no
      have noD : o ≠ D := fun z => by
        subst z
        rw [upd_ne (ne_of_none eD nl), eD] at no
        cases no
      rw [take_snoc hm]
      refine Paired.snoc ?_ ?_
      · have hadd : ∀ x ∈ ms.take t, pad ad m l x = ad x := fun x hx => pad_ne (mne x hx)
        have st : ∀ b w, H1 b = some w → b ≠ D → (upd (upd (upd H1 l (.lst [])) o (.tup [.str m, .ref l])) D (.lst (ps.map V.ref ++ [.ref o]))) b = some w := fun b w e n => by
          rw [upd_ne n, upd_ne (ne_of_none (same_new nl _ _ e) no), upd_ne (ne_of_none e nl)]
          exact e
        have st2 : ∀ b w, H1 b = some (.tup w) → (upd (upd (upd H1 l (.lst [])) o (.tup [.str m, .ref l])) D (.lst (ps.map V.ref ++ [.ref o]))) b = some (.tup w) := fun b w e => st b _ e (ne_of e eD (fun z => by cases z))
        generalize upd (upd (upd H1 l (.lst [])) o (.tup [.str m, .ref l])) D (.lst (ps.map V.ref ++ [.ref o])) = H9 at st2
        clear hn inj pl st eD mne mno
        generalize ms.take t = zs at pr hadd
        induction pr with
        | nil => exact .nil
        | cons h0 _ ih =>
          refine .cons ?_ (ih fun x hx => hadd x (List.mem_cons_of_mem _ hx))
          rw [hadd _ List.mem_cons_self]
          exact st2 _ _ h0
      · show (upd (upd (upd H1 l (.lst [])) o (.tup [.str m, .ref l])) D (.lst (ps.map V.ref ++ [.ref o]))) o = some (.tup [.str m, .ref (pad ad m l m)])
        rw [upd_ne noD, upd_same, pad_same]
    · intro y hy
      rw [take_snoc hm] at hy
      have nlo : l ≠ o := fun z => by subst z; rw [upd_same] at no; cases no
      have nlD : l ≠ D := Ne.symm (ne_of_none eD nl)
      rcases List.mem_append.mp hy with hy | hy
      · obtain ⟨h1, h2, h3⟩ := hn y hy
        rw [pad_ne (mne y hy)]
        refine ⟨?_, h2, h3⟩
        rw [upd_ne h3, upd_ne (ne_of_none (same_new nl _ _ h1) no), upd_ne (ne_of_none h1 nl)]
        exact h1
      · cases List.mem_singleton.mp hy
        rw [pad_same]
        refine ⟨?_, s1.free nl, nlD⟩
        rw [upd_ne nlD, upd_ne nlo, upd_same]
    · intro u hu v hv e
      rw [take_snoc hm] at hu hv
      rcases List.mem_append.mp hu with hu | hu <;> rcases List.mem_append.mp hv with hv | hv
      · rw [pad_ne (mne u hu), pad_ne (mne v hv)] at e
        exact inj u hu v hv e
      · cases List.mem_singleton.mp hv
        rw [pad_ne (mne u hu), pad_same] at e
        have := (hn u hu).1
        rw [e, nl] at this
        cases this
      · cases List.mem_singleton.mp hu
        rw [pad_ne (mne v hv), pad_same] at e
        have := (hn v hv).1
        rw [← e, nl] at this
        cases this
      · rw [List.mem_singleton.mp hu, List.mem_singleton.mp hv]
  · rintro H1 ⟨s1, ps, ad, eD, pr, hn, inj⟩
    rw [List.take_of_length_le (Nat.le_refl _)] at pr hn inj
    refine ⟨D, ps, mkv ms ad, rfl, sqL eD, ?_, fun d nd' => ?_⟩
    · clear hn inj q hl nd ha eD
      induction pr with
      | nil => exact .nil
      | cons h0 _ ih => exact .cons (sqT h0) ih
    · have em : mergeK [] (mkv ms ad) = mkv ms ad := merge_mkd _ ms [] (by simpa using nd)
      rw [em]
      exact q _ d ad (s1.trans (same_new nd')) ⟨⟨upd_same, fun m hm => by rw [upd_ne (ne_of_none (hn m hm).1 nd')]; exact (hn m hm).1⟩, s1.free nd', fun m hm => (hn m hm).2.1, inj⟩
def spAny : Sp := fun vs H Q _ => ∃ (b a : Addr) (ms : List Str) (many n : Nat), vs = [.ref b, .ref a, .int many] ∧ H a = some (.lst (sv ms)) ∧ a ≠ b ∧ Members ms ∧ many ≤ 100 ∧ Bag H b n ∧ n ≤ 800000000 ∧
  ∀ H' r ks ae f', Keep [b] H H' → Bag H' b (n + 500) → H r = none → DL H' r ks ae f' → (∀ m ∈ ks, H (ae m) = none) → ListsOf ms ks f' → Q (.ref r) H'
section
variable {P : Program} {w : World} {K : PySem.W.Frag} {mg : Str → Option Value} {base : Heap} (T : Txt K mg)
theorem ok_any : FnOk P w K mg base CX0 3 T.f_l_any T.fd_l_any ["_law_tin_here", "_law_members", "_law_many"] spAny := by
  have GT : FnOk P w K mg base CX0 1 T.f_l_pinch T.fd_l_pinch ["_law_tin_here", "_law_many"] spPinch := ok_pinch T
  have GS : FnOk P w K mg base CX0 2 T.f_l_shuffled T.fd_l_shuffled ["_law_tin_here", "_law_things"] spShuf := ok_shuffled T
  refine T.F_l_any.ok sc_l_any (fun vs H Q E h => ?_) (fun cdv A outer s H vs Q E hr h => ?_)
  · obtain ⟨b, a, ms, many, n, rfl, _⟩ := h
    rfl
  · obtain ⟨b, a, ms, many, n, rfl, ha, nab, M, hmany, B, hn, q⟩ := h
    have nd := sc_l_any.nd
    have hu := hu_of hr
    have hr1 : Room 1 _ := hr.mono (by decide)
    refine ⟨_, pss_cons (ps_set (i := 3) nd rfl (.inl rfl) (pe_callTy (call_dictK rfl) (by rfl) T.z_dict (by decide +kernel) (pa_cons
        (pe_lc (own := [("_law_member", 5)]) (g := gName 5) (tt := tYes) rfl nd (pi_list (pe_call GS hr (by rfl) T.g_l_shuffled T.F_l_shuffled.kp T.b_l_shuffled .nil pass0 (pa_cons (pv 0) (pa_cons (pv 1) pa_nil)))) (blkOk_by (N := ["_law_tin_here", "_law_members", "_law_many", "_law_found", "_law_turn", "_law_member", "_law_others", "_law_other"]) (sc := defScope s_l_any) (by decide +kernel)) (fun _ _ _ _ _ => pg_name (i := 5) nd rfl (.inl rfl)) (fun _ _ _ _ _ => pts_nil)
          (fun _ _ _ _ _ => pe_tup (pa_cons (pv 5) (pa_cons (pe_lst pa_nil) pa_nil)))) pa_nil)))
      (pss_cons (ps_for PassesOwn.never rfl (pi_range1 (by rfl) T.z_range (pa_cons (pe_op op_mul (pe_call GT hr1 (by rfl) T.g_l_pinch T.F_l_pinch.kp T.b_l_pinch .nil pass0 (pa_cons (pv 0) (pa_cons (pe_op op_add (pv 2) pe_int) pa_nil)))
          (pe_callTy call_int1 (by rfl) T.z_int (by decide +kernel) (pa_cons (pe_cmpR op_gt (pe_callB call_lenK (by rfl) T.z_len PySem.boot_len (pa_cons (pv 1) pa_nil)) pe_int (nomark _)) pa_nil))) pa_nil)) (pg_name (i := 4) nd rfl (.inl rfl))
        (pss_cons (ps_set (i := 5) nd rfl (.inr rfl) (pe_ix ix_list (pv 1) (pe_call GT hr1 (by rfl) T.g_l_pinch T.F_l_pinch.kp T.b_l_pinch .nil pass0 (pa_cons (pv 0) (pa_cons (pe_callB call_lenK (by rfl) T.z_len PySem.boot_len (pa_cons (pv 1) pa_nil)) pa_nil))) (fun _ _ => rfl)))
        (pss_cons (ps_setLc (i := 6) (own := [("_law_other", 7)]) (g := gName 7) (tt := tTest (tOp rNe (tVar 7) (tVar 5))) rfl nd rfl rfl (sw_true rfl rfl rfl (by decide +kernel)) (pi_list (pv 1))
            (blkOk_by (N := ["_law_tin_here", "_law_members", "_law_many", "_law_found", "_law_turn", "_law_member", "_law_others", "_law_other"]) (sc := defScope s_l_any) (by decide +kernel)) (fun _ _ _ _ _ => pg_name (i := 7) nd rfl (.inl rfl))
            (fun _ _ _ _ _ => pts_one (pt_cmpR op_ne (pv 7) (pv 5) (nomark _))) (fun _ _ _ _ _ => pv 7))
        (pss_one (ps_expr (pe_bm PySem.F.plainAttrs_list PySem.F.slot_list_append PySem.F.type_list_append mt_append (pe_dget hu (pv 3) (pv 5) (fun _ _ => rfl)) (pa_cons (pe_ix ix_list (pv 6) (pe_call GT hr1 (by rfl) T.g_l_pinch T.F_l_pinch.kp T.b_l_pinch .nil pass0 (pa_cons (pv 0) (pa_cons (pe_callB call_lenK (by rfl) T.z_len PySem.boot_len (pa_cons (pv 6) pa_nil)) pa_nil))) (fun _ _ => rfl)) pa_nil)))))))
      (pss_one (ps_ret (pv 3)))), ?_⟩
    have mlo := M.lo
    have mhi := M.hi
    have lms : (sv ms).length = ms.length := List.length_map _
    refine ⟨.ref b, rfl, .ref a, rfl, b, a, ms, n, rfl, ha, nab, by omega, B, by omega, fun H1 c ks k1 B1 nc ec pk => ?_⟩
    have ndk : ks.Nodup := pk.nodup_iff.mpr M.nd
    have lk : ks.length ≤ 12 := by rw [pk.length_eq]; exact mhi
    refine dict_listsC (j := 5) (a := c) (by show 5 < 8; decide) ec ndk (by omega) fun H2 r ae s2 dn => ?_
    have B2 := B1.same s2
    have k2 := k1.trans (Keep.of_same s2)
    have nrb : r ≠ b := Ne.symm (B1.ne dn.d0)
    have naeb : ∀ m ∈ ks, ae m ≠ b := fun m hm => Ne.symm (B1.ne (dn.new m hm))
    refine ⟨.ref b, rfl, .int many, rfl, _, _, rfl, rfl, b, (many : Int) + 1, _, rfl, by omega, by omega, B2, by omega, fun H3 r3 k3 B3 q0 q1 => ?_⟩
    have k13 := k2.trans k3
    have ha3 := k13 _ _ ha (by simpa using nab)
    refine ⟨.ref a, rfl, a, sv ms, rfl, .inl (sqL ha3), _, _, rfl, rfl, .inr ⟨_, rfl, _, _, rfl, rfl, .inr (by split <;> decide), _, rfl, ?_, ?_, ?_⟩⟩
    · split <;> omega
    · split <;> omega
    have hN : (r3 * (if decide ((1 : Int) < ((sv ms).length : Int)) = true then 1 else 0)).toNat ≤ 100 ∧ (0 < (r3 * (if decide ((1 : Int) < ((sv ms).length : Int)) = true then 1 else 0)).toNat → 2 ≤ ms.length) := by
      rw [lms]
      by_cases z : (1 : Int) < (ms.length : Int)
      · rw [if_pos (decide_eq_true z)]
        exact ⟨by omega, fun _ => by omega⟩
      · rw [if_neg (by simpa using z)]
        exact ⟨by omega, fun w => by omega⟩
    generalize (r3 * (if decide ((1 : Int) < ((sv ms).length : Int)) = true then 1 else 0)).toNat = N at hN
    obtain ⟨hN1, hN2⟩ := hN
    refine for_it (walk_range (lo := 0) (n := N)) (fun t σ H4 => ∃ (x4 x5 x6 : Option V) (f' : Str → List Str), σ = [some (.ref b), some (.ref a), some (.int many), some (.ref r), x4, x5, x6, none] ∧ Keep [b] H H4 ∧ Bag H4 b (n + 20 + 2 * t) ∧ DN H1 H4 r ks ae f' ∧
      (∀ m ∈ ms, ∀ g ∈ f' m, g ∈ ms ∧ g ≠ m) ∧ ∀ m ∈ ms, (f' m).length ≤ t) ?_ (fun _ _ _ _ _ => True.intro) ?_ ?_
    · exact ⟨none, none, none, fun _ => [], rfl, k13, B3.mono (by omega), ⟨dn.dl.keep k3 (by simpa using nrb) (fun m hm => by simpa using naeb m hm), dn.d0, dn.new, dn.inj⟩, fun _ _ _ z => (by cases z), fun _ _ => Nat.zero_le _⟩
    · rintro t v σ H5 H4 ht ⟨x4, x5, x6, f', rfl, k4, B4, dn4, hm4, hl4⟩ ⟨rfl, rfl⟩
      have m2 := hN2 (by omega)
      have ha4 := k4 _ _ ha (by simpa using nab)
      refine ⟨.ref a, rfl, .ref b, rfl, .ref a, rfl, a, sv ms, rfl, .inl (sqL ha4), b, _, _, rfl, by omega, by omega, B4, by omega, fun H6 i k6 B6 i0 i1 => ?_⟩
      have hk : i.toNat < ms.length := by omega
      have ek : ms[i.toNat]? = some ms[i.toNat] := List.getElem?_eq_getElem hk
      have mm := List.getElem_mem hk
      generalize ms[i.toNat] = m at ek mm
      have ha6 := k6 _ _ ha4 (by simpa using nab)
      have mk : m ∈ ks := pk.mem_iff.mpr mm
      refine ⟨a, sv ms, i, .str m, rfl, rfl, sqL ha6, at_of (j := i.toNat) (by omega) (sv_get ek), ?_⟩
      refine ⟨.ref a, rfl, a, rfl, ⟨_, sqL ha6⟩, fun o no => lc_it (walk_sv ms) (fun i H9 => Same H6 H9 ∧ H9 o = some (.lst (sv (oth (ms.take i) m)))) ⟨same_new no, upd_same⟩ (fun i H9 _ p => sqL (p.1 _ _ ha6)) ?_ ?_⟩
      · rintro i v H0 H9 hi ⟨s9, eo⟩ ⟨rfl, y, hy, rfl⟩
        refine ⟨rfl, .str y, rfl, .str m, rfl, rfl, _, rfl, ?_⟩
        have eot : oth (ms.take (i + 1)) m = oth (ms.take i) m ++ (if y = m then [] else [y]) := by
          rw [take_snoc hy]
          unfold oth
          rw [List.filter_append]
          by_cases w : y = m <;> simp [w]
        by_cases w : y = m
        · rw [decide_eq_true (by rw [w])]
          refine iteF ⟨s9, ?_⟩
          rw [eot, if_pos w, List.append_nil]
          exact eo
        · rw [decide_eq_false (fun q => w (V.str.inj q))]
          refine iteT ⟨.str y, rfl, sv (oth (ms.take i) m), eo, ?_, same_mut s9 no, ?_⟩
          · have l1 : (oth (ms.take i) m).length ≤ (ms.take i).length := List.length_filter_le _ _
            rw [List.length_take] at l1
            rw [List.length_map]
            exact sz (by omega)
          · rw [upd_same, eot, if_neg w]; simp
      · rintro H9 ⟨s9, eo⟩
        rw [List.take_of_length_le (Nat.le_refl _)] at eo
        have nob : o ≠ b := Ne.symm (B6.ne no)
        have ho : oth ms m ≠ [] := oth_two M.nd m2
        have ol : 1 ≤ (oth ms m).length := by
          cases hq : oth ms m with
          | nil => exact absurd hq ho
          | cons _ _ => simp
        have ol2 : (oth ms m).length ≤ 12 := Nat.le_trans (List.length_filter_le _ _) mhi
        have los : (sv (oth ms m)).length = (oth ms m).length := List.length_map _
        have k49 := k6.trans (Keep.of_same s9)
        have dl9 := dn4.dl.keep k49 (by simpa using nrb) (fun y hy => by simpa using naeb y hy)
        refine ⟨.ref r, rfl, .str m, rfl, r, .ref (ae m), rfl, dl9.get mk, .inl ⟨rfl, _, sqL (dl9.at_ m mk)⟩, .ref o, rfl, .ref b, rfl, .ref o, rfl, o, sv (oth ms m), rfl, .inl (sqL eo), b, _, _, rfl, by omega, by omega, B6.same s9, by omega, fun H10 u k10 B10 u0 u1 => ?_⟩
        have hu2 : u.toNat < (oth ms m).length := by omega
        have eu : (oth ms m)[u.toNat]? = some (oth ms m)[u.toNat] := List.getElem?_eq_getElem hu2
        have um := List.getElem_mem hu2
        generalize (oth ms m)[u.toNat] = y at eu um
        obtain ⟨ym, ynm⟩ := mem_oth.mp um
        have eo10 := k10 _ _ eo (by simpa using nob)
        have k410 := k49.trans k10
        have dn10 : DN H1 H10 r ks ae f' := ⟨dn4.dl.keep k410 (by simpa using nrb) (fun y hy => by simpa using naeb y hy), dn4.d0, dn4.new, dn4.inj⟩
        have lm := hl4 m mm
        refine ⟨o, sv (oth ms m), u, .str y, rfl, rfl, sqL eo10, at_of (j := u.toNat) (by omega) (sv_get eu), ae m, sv (f' m), .str y, rfl, rfl, dn10.dl.at_ m mk, ?_, ?_⟩
        · rw [List.length_map]
          exact sz (by omega)
        have es : sv (f' m) ++ [V.str y] = sv (f' m ++ [y]) := by simp
        rw [es]
        refine ⟨_, _, _, GF.put f' m (f' m ++ [y]), rfl, ?_, ?_, dn10.set mk, fun z hz g hg => ?_, fun z hz => ?_⟩
        · exact keep_mut (k4.trans k410) (k1.free (dn.new m mk) (by simpa using naeb m mk))
        · exact (B10.keep (W := [ae m]) (keep_upd (by simp)) (by simpa using Ne.symm (naeb m mk))).mono (by omega)
        · by_cases e : z = m
          · subst e
            rw [put_same] at hg
            rcases List.mem_append.mp hg with hg | hg
            · exact hm4 z hz g hg
            · rw [List.mem_singleton.mp hg]
              exact ⟨ym, ynm⟩
          · rw [put_ne e] at hg
            exact hm4 z hz g hg
        · by_cases e : z = m
          · subst e
            rw [put_same, List.length_append, List.length_singleton]
            omega
          · rw [put_ne e]
            exact Nat.le_succ_of_le (hl4 z hz)
    · rintro σ H4 ⟨x4, x5, x6, f', rfl, k4, B4, dn4, hm4, hl4⟩
      exact ⟨_, rfl, q _ r ks ae f' k4 (B4.mono (by omega)) (k1.free dn.d0 (by simpa using nrb)) dn4.dl (fun m hm => k1.free (dn.new m hm) (by simpa using naeb m hm)) ⟨pk, hm4, fun m hm => Nat.le_trans (hl4 m hm) (by omega)⟩⟩
end
/-! ### the law's own search for a ring -/
theorem guards_of {A : Around} {e : Env} (h : A.guards = some []) : (A.deeper e).guards = some [] := h
theorem nameB_nm {x : Str} (h : nameB x = true) : Nm x := by
  refine ⟨nameB_len h, fun c hc => ?_⟩
  unfold nameB at h
  simp only [Bool.and_eq_true, decide_eq_true_eq] at h
  exact Nat.lt_trans (letters_small c (of_decide_eq_true (List.all_eq_true.mp h.2 c hc))) (by decide)
theorem hd1_mem {l : List Str} (h : l ≠ []) : hd1 l ∈ l := by
  cases l with
  | nil => exact absurd rfl h
  | cons x r => exact List.mem_cons_self
theorem ents_mem {ms : List Str} {p m : Str} {f : Str → List Str} (h : m ∈ ents ms p f) : m ∈ ms ∧ f m ≠ [] := by
  unfold ents at h
  obtain ⟨h1, h2⟩ := List.mem_filter.mp h
  simp only [Bool.and_eq_true, Bool.not_eq_true', decide_eq_false_iff_not] at h2
  exact ⟨h1, h2.2⟩
theorem ents_iff {ms : List Str} {p m : Str} {f : Str → List Str} (hm : m ∈ ms) : m ∈ ents ms p f ↔ m ≠ p ∧ f m ≠ [] := by
  unfold ents
  rw [List.mem_filter]
  simp [hm]
theorem law_ring_is {ms : List Str} {p : Str} {f : Str → List Str} : (ms.findSome? fun m => run (fun x => x ∈ ents ms p f) (fun m => hd1 (f m)) m ms.length [m] m) = ringOf ms p f := by
  have e1 : (ms.findSome? fun m => run (fun x => x ∈ ents ms p f) (fun m => hd1 (f m)) m ms.length [m] m) = ms.findSome? (ringAt (ents ms p f) fun m => hd1 (f m)) := by
    congr 1
    funext m
    exact run_stable _ _ _ (fun x hx => hx) (List.length_filter_le _ _)
  rw [e1]
  refine findSome_filter fun m hm hp => ?_
  have hn : m ∉ ents ms p f := fun z => by
    have := (List.mem_filter.mp z).2
    rw [this] at hp
    cases hp
  unfold ringAt
  cases (ents ms p f).length with
  | zero => rfl
  | succ k => unfold GF.run; rw [if_neg hn]
def spLawRing : Sp := fun vs H Q _ => ∃ (a d : Addr) (ms ks : List Str) (ad : Str → Addr) (f : Str → List Str) (p : Str), vs = [.ref a, .str p, .ref d] ∧ H a = some (.lst (sv ms)) ∧ DL H d ks ad f ∧ Members ms ∧ ListsOf ms ks f ∧ Gives (ringOf ms p f) H Q
section
variable {P : Program} {w : World} {K : PySem.W.Frag} {mg : Str → Option Value} {base : Heap} (T : Txt K mg)
theorem ok_l_ring : FnOk P w K mg base CX0 1 T.f_l_ring T.fd_l_ring ["_law_members", "_law_first", "_law_lists_here"] spLawRing := by
  refine T.F_l_ring.ok sc_l_ring (fun vs H Q E h => ?_) (fun cdv A outer s H vs Q E hr h => ?_)
  · obtain ⟨a, d, ms, ks, ad, f, p, rfl, _⟩ := h
    rfl
  · obtain ⟨a, d, ms, ks, ad, f, p, rfl, ha, dl, M, L, q⟩ := h
    have nd := sc_l_ring.nd
    have hu := hu_of hr
    have hu64 : Around.units _ + 64 < cLine := hr.units
    refine ⟨_, pss_cons (ps_for PassesOwn.never rfl (pi_list (pv 0)) (pg_name (i := 3) nd rfl (.inl rfl))
        (pss_cons (ps_par (i := 4) (j := 5) rfl nd rfl rfl (by decide) rfl rfl (pa_cons (pe_lst (pa_cons (pv 3) pa_nil)) (pa_cons (pv 3) pa_nil)) (by rfl))
        (pss_one (ps_for PassesOwn.never rfl (pi_range1 (by rfl) T.z_range (pa_cons (pe_callB call_lenK (by rfl) T.z_len PySem.boot_len (pa_cons (pv 0) pa_nil)) pa_nil)) (pg_name (i := 6) nd rfl (.inl rfl))
          (pss_cons (ps_if (PW.pt (pw_or (pt_cmpR op_eq (pv 5) (pv 1) (nomark _)) (pw_or1 (pt_cmpR (op_eqD hu64) (pe_dget hu (pv 2) (pv 5) (fun _ _ => rfl)) (pe_lst pa_nil) (nomark _))))) (pss_one ps_break) pss_nil)
          (pss_cons (ps_set (i := 5) nd rfl (.inl rfl) (pe_ix ix_list (pe_dget hu (pv 2) (pv 5) (fun _ _ => rfl)) pe_int (fun _ _ => rfl)))
          (pss_cons (ps_if (pt_cmpR op_eq (pv 5) (pv 3) (nomark _)) (pss_one (ps_ret (pv 4))) pss_nil)
          (pss_one (ps_expr (pe_bm PySem.F.plainAttrs_list PySem.F.slot_list_append PySem.F.type_list_append mt_append (pv 4) (pa_cons (pv 5) pa_nil)))))))))))
      (pss_one (ps_ret pe_non)), ?_⟩
    rw [← law_ring_is] at q
    generalize hF : (fun m => run (fun x => x ∈ ents ms p f) (fun m => hd1 (f m)) m ms.length [m] m) = F at q
    have mk : ∀ m ∈ ms, m ∈ ks := fun m hm => L.perm.mem_iff.mpr hm
    have mhi := M.hi
    refine ⟨.ref a, rfl, a, rfl, ⟨_, sqL ha⟩, for_it (walk_sv ms) (fun i σ H1 => ∃ x3 x4 x5 x6, σ = [some (.ref a), some (.str p), some (.ref d), x3, x4, x5, x6] ∧ Same H H1 ∧ (ms.drop i).findSome? F = ms.findSome? F) ⟨none, none, none, none, rfl, Same.refl _, rfl⟩
      (fun i σ H1 _ pp => by obtain ⟨_, _, _, _, _, s1, _⟩ := pp; exact sqL (s1 _ _ ha)) ?_ ?_⟩
    · rintro i v σ H2 H1 hi ⟨x3, x4, x5, x6, rfl, s1, hf⟩ ⟨rfl, m, hm, rfl⟩
      have mm := List.mem_of_getElem? hm
      have hdr : ms.drop i = m :: ms.drop (i + 1) := by
        obtain ⟨h1, h2⟩ := List.getElem?_eq_some_iff.mp hm
        rw [List.drop_eq_getElem_cons h1, h2]
      rw [hdr, List.findSome?_cons] at hf
      have hFm : F m = run (fun x => x ∈ ents ms p f) (fun m => hd1 (f m)) m ms.length [m] m := by rw [← hF]
      -- what stands when no ring was found for m
      have fin : F m = none → (ms.drop (i + 1)).findSome? F = ms.findSome? F := fun e => by rw [e] at hf; exact hf
      refine ⟨.str m, rfl, (by show 1 ≤ sizeLine; decide), fun l nl => ⟨.str m, rfl, .ref l, .str m, rfl, ?_⟩⟩
      have s2 : Same H (upd H1 l (.lst [.str m])) := s1.trans (same_new nl)
      have el2 : (upd H1 l (.lst [.str m])) l = some (.lst (sv [m])) := upd_same
      have nlH : H l = none := s1.free nl
      generalize upd H1 l (.lst [.str m]) = H2 at s2 el2
      refine ⟨.ref a, rfl, a, sv ms, rfl, .inl (sqL (s2 _ _ ha)), _, rfl, by omega, by rw [List.length_map]; omega, ?_⟩
      have eN : (((sv ms).length : Nat) : Int).toNat = ms.length := by rw [List.length_map]; rfl
      rw [eN]
      refine for_it (walk_range (lo := 0) (n := ms.length)) (fun t σ H3 => ∃ (found : List Str) (here : Str) (x6 : Option V), σ = [some (.ref a), some (.str p), some (.ref d), some (.str m), some (.ref l), some (.str here), x6] ∧ Same H H3 ∧ H3 l = some (.lst (sv found)) ∧ here ∈ ms ∧ found.length = t + 1 ∧
        run (fun x => x ∈ ents ms p f) (fun m => hd1 (f m)) m (ms.length - t) found here = F m) ?_ (fun _ _ _ _ _ => True.intro) ?_ ?_
      · exact ⟨[m], m, _, rfl, s2, el2, mm, rfl, hFm.symm⟩
      · rintro t v σ H4 H3 ht ⟨found, here, x6, rfl, s3, el, hh, hlen, hrun⟩ ⟨rfl, rfl⟩
        have e1 : ms.length - t = (ms.length - (t + 1)) + 1 := by omega
        rw [e1] at hrun
        unfold GF.run at hrun
        have dl3 := dl.same s3
        refine ⟨.str here, rfl, .str p, rfl, rfl, _, rfl, ?_⟩
        by_cases z : here = p
        · rw [decide_eq_true (by rw [z])]
          rw [if_neg (fun w => ((ents_iff hh).mp w).1 z)] at hrun
          exact iteT (iteT ⟨_, _, _, _, rfl, s3, fin hrun.symm⟩)
        · rw [decide_eq_false (fun w => z (V.str.inj w))]
          refine iteF ⟨.ref d, rfl, .str here, rfl, d, .ref (ad here), rfl, dl3.get (mk _ hh), Nat.zero_le _, fun y ny => ?_⟩
          have s4 : Same H3 (upd H3 y (.lst [])) := same_new ny
          have ey : (upd H3 y (.lst [])) y = some (.lst (sv [])) := upd_same
          have okf : ∀ x ∈ f here, PyData.strOk x = true := fun x hx => nameB_ok (M.nm x (L.mem here hh x hx).1)
          generalize upd H3 y (.lst []) = H5 at s4 ey
          have dl5 := dl3.same s4
          refine ⟨_, _, dp_strs (sqL (dl5.at_ here (mk _ hh))), dp_strs (l := []) (sqL ey), shaped_strs okf, shaped_strs (fun _ w => by cases w), _, rfl, ?_⟩
          rw [eqv_strs]
          have el5 := s4 _ _ el
          by_cases ho : f here = []
          · rw [decide_eq_true ho]
            rw [if_neg (fun w => ((ents_iff hh).mp w).2 ho)] at hrun
            exact iteT ⟨_, _, _, _, rfl, s3.trans s4, fin hrun.symm⟩
          · rw [decide_eq_false ho]
            rw [if_pos ((ents_iff hh).mpr ⟨z, ho⟩)] at hrun
            have i0 : atI (sv (f here)) 0 = some (.str (hd1 (f here))) := by
              cases hq : f here with
              | nil => exact absurd hq ho
              | cons g t => exact atI_nat (j := 0) rfl
            have hg : hd1 (f here) ∈ ms := (L.mem here hh _ (hd1_mem ho)).1
            refine iteF ⟨.ref d, rfl, .str here, rfl, d, .ref (ad here), rfl, dl5.get (mk _ hh), ad here, _, 0, .str (hd1 (f here)), rfl, rfl, sqL (dl5.at_ here (mk _ hh)), i0, ?_⟩
            refine ⟨.str (hd1 (f here)), rfl, .str m, rfl, rfl, _, rfl, ?_⟩
            by_cases e : hd1 (f here) = m
            · rw [decide_eq_true (by rw [e])]
              rw [if_pos e] at hrun
              rw [← hrun] at hf
              exact iteT ⟨_, rfl, (q H5 (s3.trans s4)).2 found l hf.symm nlH el5⟩
            · rw [decide_eq_false (fun w => e (V.str.inj w))]
              rw [if_neg e] at hrun
              refine iteF ⟨_, rfl, .inl ⟨rfl, _, sqL el5⟩, _, rfl, l, sv found, .str (hd1 (f here)), rfl, rfl, el5, ?_, ?_⟩
              · rw [List.length_map]
                exact sz (by omega)
              · refine ⟨found ++ [hd1 (f here)], hd1 (f here), _, rfl, same_mut (s3.trans s4) nlH, ?_, hg, by rw [List.length_append, List.length_singleton]; omega, hrun⟩
                rw [upd_same]
                simp
      · rintro σ H3 ⟨found, here, x6, rfl, s3, el, hh, hlen, hrun⟩
        rw [Nat.sub_self] at hrun
        exact ⟨_, _, _, _, rfl, s3, fin hrun.symm⟩
    · rintro σ H1 ⟨x3, x4, x5, x6, rfl, s1, hf⟩
      rw [List.drop_of_length_le (Nat.le_refl _)] at hf
      exact (q H1 s1).1 hf.symm
end
/-! ### the law's comparison -/
def rReprO : List V → Hp → VK → Prop := fun xs H Q => (xs = [.non] ∧ Q (.str "None") H) ∨ rRepr xs H Q
theorem call_reprO {X : Cx} (hg : X.A.guards = some []) (hu : X.A.units + 64 < cLine) : CallR X (.builtin "repr") rReprO := by
  intro pins s σ H xs us Q I r h
  rcases h with ⟨rfl, q⟩ | h
  · obtain ⟨u, rfl, ru⟩ := vals1 r
    cases ru
    exact PySem.P.repr_of_none ⟨.str "None", H, I.tok _, ⟨_, rfl⟩, q⟩
  · exact call_reprD hg hu pins s σ H xs us Q I r h
def Found (o : Option (List Str)) (H0 H : Hp) (v : V) : Prop := (o = none ∧ v = .non) ∨ ∃ r l, o = some r ∧ v = .ref l ∧ H0 l = none ∧ H l = some (.lst (sv r))
theorem gives_of {o : Option (List Str)} {H : Hp} {Q : VK} (h : ∀ H' v, Same H H' → Found o H H' v → Q v H') : Gives o H Q := fun H' s' => ⟨fun e => h H' _ s' (.inl ⟨e, rfl⟩), fun r l e nl el => h H' _ s' (.inr ⟨r, l, e, rfl, nl, el⟩)⟩
theorem Found.same {o : Option (List Str)} {H0 H H' : Hp} {v : V} (f : Found o H0 H v) (s : Same H H') : Found o H0 H' v := by
  rcases f with f | ⟨r, l, e, ev, nl, el⟩
  · exact .inl f
  · exact .inr ⟨r, l, e, ev, nl, s _ _ el⟩
def textO : Option (List Str) → Str
  | none => "None"
  | some r => (nmD r).shown
theorem Found.repr {o : Option (List Str)} {H0 H : Hp} {v : V} {Q : VK} (f : Found o H0 H v) (ho : ∀ r, o = some r → r.length ≤ 13 ∧ ∀ x ∈ r, Nm x) (q : Q (.str (textO o)) H) : rReprO [v] H Q := by
  rcases f with ⟨e, rfl⟩ | ⟨r, l, e, rfl, nl, el⟩
  · subst e
    exact .inl ⟨rfl, q⟩
  · subst e
    obtain ⟨h1, h2⟩ := ho r rfl
    have ft := fit_nmD h2
    exact .inr ⟨l, nmD r, rfl, sh_nmD el, ft.sh, Nat.le_trans ft.dp (by decide), Nat.le_trans ft.ln (by show _ ≤ 2 ^ 24; omega), q⟩
theorem ringOf_fit {ms ks : List Str} {p : Str} {f : Str → List Str} (M : Members ms) (L : ListsOf ms ks f) : ∀ r, ringOf ms p f = some r → r.length ≤ 13 ∧ ∀ x ∈ r, Nm x := by
  intro r h
  unfold ringOf at h
  obtain ⟨m, hm, e⟩ := List.exists_of_findSome?_eq_some h
  unfold ringAt at e
  have h1 := run_short _ _ _ (es := ents ms p f) (fun x hx => hx) e
  have h2 : (ents ms p f).length ≤ 12 := Nat.le_trans (List.length_filter_le _ _) M.hi
  refine ⟨by omega, fun x hx => ?_⟩
  obtain ⟨N, _, n2, n3, _, _⟩ := run_spec _ _ _ _ 0 r e
  rw [n2] at hx
  unfold chain at hx
  obtain ⟨i, hi, rfl⟩ := List.mem_map.mp hx
  rw [List.mem_range] at hi
  exact nameB_nm (M.nm _ (ents_mem (n3 i (by omega) (by omega))).1)
def spRight : Sp := fun vs H Q _ => ∃ (a d : Addr) (ms ks : List Str) (ad : Str → Addr) (f : Str → List Str) (p : Str), vs = [.ref a, .str p, .ref d] ∧ H a = some (.lst (sv ms)) ∧ DL H d ks ad f ∧ Members ms ∧ ListsOf ms ks f ∧ p ∈ ms ∧ ∀ H', Same H H' → Q (.bl true) H'
section
variable {P : Program} {w : World} {K : PySem.W.Frag} {mg : Str → Option Value} {base : Heap} (T : Txt K mg)
theorem ok_right : FnG P w K mg base 6 T.f_l_right T.fd_l_right ["_law_members", "_law_first", "_law_lists_here"] spRight := by
  have G5 : FnOk P w K mg base CX0 5 T.f_ring_of T.fd_ring_of ["members", "first", "lists"] spRingOf := ok_ring_of T
  have G1 : FnOk P w K mg base CX0 1 T.f_l_ring T.fd_l_ring ["_law_members", "_law_first", "_law_lists_here"] spLawRing := ok_l_ring T
  refine fun_okG T.F_l_right sc_l_right (fun vs H Q E h => ?_) (fun cdv A outer s H vs Q E hg hr h => ?_)
  · obtain ⟨a, d, ms, ks, ad, f, p, rfl, _⟩ := h
    rfl
  · obtain ⟨a, d, ms, ks, ad, f, p, rfl, ha, dl, M, L, hp, q⟩ := h
    have nd := sc_l_right.nd
    have hu64 : Around.units _ + 64 < cLine := hr.units
    have hr1 : Room 1 _ := hr.mono (by decide)
    refine ⟨_, pss_cons (ps_par (i := 3) (j := 4) rfl nd rfl rfl (by decide) rfl rfl (pa_cons (pe_call G1 hr1 (by rfl) T.g_l_ring T.F_l_ring.kp T.b_l_ring .nil pass0 (pa_cons (pv 0) (pa_cons (pv 1) (pa_cons (pv 2) pa_nil))))
        (pa_cons (pe_callB (call_reprD (guards_of hg) hu64) (by rfl) T.z_repr (by decide +kernel) (pa_cons (pe_lst (pa_cons (pv 0) (pa_cons (pv 2) pa_nil))) pa_nil)) pa_nil)) (by rfl))
      (pss_cons (ps_for PassesOwn.never rfl (pi_range1 (by rfl) T.z_range (pa_cons pe_int pa_nil)) (pg_name (i := 5) nd rfl (.inl rfl))
        (pss_cons (ps_set (i := 6) nd rfl (.inl rfl) (pe_call G5 hr (by rfl) T.g_ring_of T.F_ring_of.kp T.b_ring_of .nil pass0 (pa_cons (pv 0) (pa_cons (pv 1) (pa_cons (pv 2) pa_nil)))))
        (pss_cons (ps_if (PW.pt (pw_or (pt_cmpR op_ne (pe_callB (call_reprO (guards_of hg) hu64) (by rfl) T.z_repr (by decide +kernel) (pa_cons (pv 6) pa_nil)) (pe_callB (call_reprO (guards_of hg) hu64) (by rfl) T.z_repr (by decide +kernel) (pa_cons (pv 3) pa_nil)) (nomark _))
            (pw_or1 (pt_cmpR op_ne (pe_callB (call_reprD (guards_of hg) hu64) (by rfl) T.z_repr (by decide +kernel) (pa_cons (pe_lst (pa_cons (pv 0) (pa_cons (pv 2) pa_nil))) pa_nil)) (pv 4) (nomark _))))) (pss_one (ps_ret pe_bl)) pss_nil)
        (pss_one (ps_if (pt_val (pe_callB call_isi (by rfl) T.z_isinstance (by decide +kernel) (pa_cons (pv 6) (pa_cons (pe_bltn (v := .ty "list") (by rfl) T.z_list (by decide +kernel) rfl) pa_nil))))
          (pss_one (ps_expr (pe_bm PySem.F.plainAttrs_list PySem.F.slot_list_append PySem.F.type_list_append mt_append (pv 6) (pa_cons pe_str pa_nil)))) pss_nil)))))
      (pss_one (ps_ret pe_bl))), ?_⟩
    have mk : ∀ m ∈ ks, m ∈ ms := fun m hm => L.perm.mem_iff.mp hm
    have lk : ks.length ≤ 12 := by rw [L.perm.length_eq]; exact M.hi
    have mhi := M.hi
    have nmm : ∀ m ∈ ms, Nm m := fun m hm => nameB_nm (M.nm m hm)
    obtain ⟨a1, a2, a3⟩ := fit_two (fit_nmD nmm) (fit_dictL (f := f) (L := 1000) (fun m hm => nmm m (mk m hm)) (fun m hm x hx => nmm x (L.mem m (mk m hm) x hx).1) (fun m hm => L.len m (mk m hm)))
    have a4 : (PyData.shown (.list [nmD ms, dictL ks f])).length ≤ sizeLine := Nat.le_trans a3 (by
      have : ks.length * (2 + 1000 * 84 + 86) ≤ 12 * (2 + 1000 * 84 + 86) := Nat.mul_le_mul_right _ lk
      show _ ≤ 2 ^ 24
      omega)
    have sh0 : ∀ {H1 : Hp} {t : Addr}, Same H H1 → H1 t = some (.lst [.ref a, .ref d]) → Sh H1 (.ref t) (.list [nmD ms, dictL ks f]) := fun s1 et => .lst et (.cons (sh_nmD (s1 _ _ ha)) (.cons (sh_dl (dl.same s1)) .nil))
    generalize PyData.list [nmD ms, dictL ks f] = D0 at a1 a2 a4 sh0
    have hO := ringOf_fit (p := p) M L
    refine ⟨.ref a, rfl, .str p, rfl, .ref d, rfl, a, d, ms, ks, ad, f, p, rfl, ha, dl, M, L, gives_of fun H1 due s1 fd => ?_⟩
    refine ⟨.ref a, rfl, .ref d, rfl, (by show 2 ≤ sizeLine; decide), fun t0 nt0 => ?_⟩
    have s2 : Same H1 (upd H1 t0 (.lst [.ref a, .ref d])) := same_new nt0
    have et0 : (upd H1 t0 (.lst [.ref a, .ref d])) t0 = some (.lst [.ref a, .ref d]) := upd_same
    generalize upd H1 t0 (.lst [.ref a, .ref d]) = H2 at s2 et0
    have fd2 := fd.same s2
    refine ⟨t0, D0, rfl, sh0 (s1.trans s2) et0, a1, a2, a4, due, .str D0.shown, rfl, 2, rfl, by decide, by decide, ?_⟩
    refine for_it (walk_range (lo := 0) (n := 2)) (fun i σ H4 => ∃ x5 x6, σ = [some (.ref a), some (.str p), some (.ref d), some due, some (.str D0.shown), x5, x6] ∧ Same H2 H4) ⟨none, none, rfl, Same.refl _⟩ (fun _ _ _ _ _ => True.intro) ?_ ?_
    · rintro i x σ H5 H4 hi ⟨x5, x6, rfl, s4⟩ ⟨rfl, rfl⟩
      have s04 := (s1.trans s2).trans s4
      refine ⟨.ref a, rfl, .str p, rfl, .ref d, rfl, a, d, ms, ks, ad, f, p, rfl, s04 _ _ ha, dl.same s04, M, L, hp, gives_of fun H6 told s6 ft => ?_⟩
      refine ⟨told, rfl, ?_⟩
      unfold tNil
      dsimp only
      refine Found.repr ft hO ?_
      refine ⟨due, rfl, ?_⟩
      dsimp only
      refine Found.repr ((fd2.same s4).same s6) hO ?_
      refine ⟨rfl, _, rfl, ?_⟩
      rw [decide_eq_true rfl]
      refine iteF ⟨.ref a, rfl, .ref d, rfl, (by show 2 ≤ sizeLine; decide), fun t3 nt3 => ?_⟩
      have s7 : Same H6 (upd H6 t3 (.lst [.ref a, .ref d])) := same_new nt3
      have et7 : (upd H6 t3 (.lst [.ref a, .ref d])) t3 = some (.lst [.ref a, .ref d]) := upd_same
      generalize upd H6 t3 (.lst [.ref a, .ref d]) = H7 at s7 et7
      refine ⟨t3, D0, rfl, sh0 (s04.trans (s6.trans s7)) et7, a1, a2, a4, .str D0.shown, rfl, rfl, _, rfl, ?_⟩
      rw [decide_eq_true rfl]
      have s27 := s4.trans (s6.trans s7)
      refine iteF ?_
      rcases ft with ⟨_, rfl⟩ | ⟨r, l, _, rfl, nl, el⟩
      · exact ⟨.non, rfl, .non, .ty "list", .type "NoneType", .type "list", false, rfl, .ty _, .base .non, kit_ty (by decide +kernel), false, rfl, iteF ⟨_, _, rfl, s27⟩⟩
      · have el7 := s7 _ _ el
        refine ⟨.ref l, rfl, .ref l, .ty "list", .type "list", .type "list", true, rfl, .ty _, .base (.lst el7), kit_ty (by decide +kernel), true, rfl, iteT ⟨.ref l, rfl, .inl ⟨rfl, _, sqL el7⟩, l, sv r, _, rfl, rfl, el7, ?_, _, _, rfl, same_mut s27 (s4.free nl)⟩⟩
        rw [List.length_map]
        have := (hO r (by assumption)).1
        exact sz (by omega)
    · rintro σ H4 ⟨x5, x6, rfl, s4⟩
      exact q _ ((s1.trans s2).trans s4)
end
/-! ### the law -/
theorem gname_to {i : Nat} {v : V} {σ : L2.St} {H : Hp} {Q : L2.St → Hp → Prop} (h : Q (σ.set i (some v)) H) : gName i v σ H Q := h
theorem seq_keep {K : PySem.W.Frag} {H0 H H' : Hp} {sc b : Addr} {xs : List V} (h : SqL K H0 sc xs) (s : Same H0 H) (nb : H0 b = none) (k : Keep [b] H H') : SqL K H' sc xs := by
  rcases h with (h | ⟨o, h⟩) | h
  · exact .inl (.inl (k _ _ (s _ _ h) (by simpa using ne_of_none h nb)))
  · exact .inl (.inr ⟨o, k _ _ (s _ _ h) (by simpa using ne_of_none h nb)⟩)
  · exact .inr h
theorem givers_of {ms h : List Str} (g : Hist ms h) (hl : h.length ≤ 1000) : ListsOf ms ms (fun m => givers m h) :=
  ⟨.refl _, fun m _ x hx => ⟨g.mem x (givers_mem hx), givers_ne g.adj hx⟩, fun m _ => Nat.le_trans (givers_len m h) hl⟩
theorem lists_take {ms ks : List Str} {f f' : Str → List Str} (L : ListsOf ms ms f) (p : ks.Perm ms) (hf : ∀ m ∈ ms, ∃ j, f' m = (f m).take j) : ListsOf ms ks f' :=
  ⟨p, fun m hm x hx => by
    obtain ⟨j, e⟩ := hf m hm
    rw [e] at hx
    exact L.mem m hm x (List.mem_of_mem_take hx), fun m hm => by
    obtain ⟨j, e⟩ := hf m hm
    rw [e]
    have := L.len m hm
    rw [List.length_take]
    omega⟩
/-- the beginnings of a history's lists have no ring -/
theorem no_ring {ms h : List Str} {p : Str} {r : List Str} {f' : Str → List Str} (hd : h = p :: r) (hf : ∀ m ∈ ms, ∃ j, f' m = (givers m h).take j) : ringOf ms p f' = none := by
  unfold ringOf
  rw [List.findSome?_eq_none_iff]
  intro m _
  unfold ringAt
  refine run_none _ _ _ (fun x => h.idxOf x) (fun x hx => ?_) _
  obtain ⟨hm, hn⟩ := ents_mem hx
  have hp : x ≠ p := ((ents_iff hm).mp hx).1
  obtain ⟨j, e⟩ := hf x hm
  show h.idxOf (hd1 (f' x)) < h.idxOf x
  rw [e] at hn ⊢
  cases hg : givers x h with
  | nil => rw [hg] at hn; simp at hn
  | cons y t =>
    cases j with
    | zero => rw [hg] at hn; simp at hn
    | succ j =>
      show h.idxOf y < h.idxOf x
      subst hd
      exact givers_head hp hg
def ms3 : List Str := ["a", "b", "p"]
def f3 (m : Str) : List Str := if m = "a" then ["b"] else if m = "b" then ["a", "p"] else []
theorem ring3p : ringOf ms3 "p" f3 = some (["a", "b"] : List Str) := by decide +kernel
theorem ring3a : ringOf ms3 "a" f3 = none := by decide +kernel
theorem mem3 : Members ms3 := ⟨by decide, by decide, by decide +kernel, fun i x y h1 h2 => by
  match i, h1, h2 with
  | 0, h1, h2 => cases h1; cases h2; decide +kernel
  | 1, h1, h2 => cases h1; cases h2; decide +kernel
  | i + 2, h1, h2 => simp [ms3] at h2, by decide⟩
theorem lists3 : ListsOf ms3 ms3 f3 := ⟨.refl _, by decide +kernel, by decide +kernel⟩
theorem text3 : (PyData.shown (.list [nmD (["a", "b"] : List Str), .none])) = "[['a', 'b'], None]" := by decide +kernel
def ad3 (la lb lp : Addr) : Str → Addr := fun m => if m = "a" then la else if m = "b" then lb else lp
theorem ad3a {la lb lp : Addr} : ad3 la lb lp "a" = la := if_pos rfl
theorem ad3b {la lb lp : Addr} : ad3 la lb lp "b" = lb := by
  unfold ad3
  rw [if_neg (by decide), if_pos rfl]
theorem ad3p {la lb lp : Addr} : ad3 la lb lp "p" = lp := by
  unfold ad3
  rw [if_neg (by decide), if_neg (by decide)]
theorem kv3 (la lb lp : Addr) : mergeK [] ([(Sum.inr "a", V.ref la), (Sum.inr "b", V.ref lb), (Sum.inr "p", V.ref lp)] : List (Key × V)) = mkv ms3 (ad3 la lb lp) := by
  have e : ([(Sum.inr "a", V.ref la), (Sum.inr "b", V.ref lb), (Sum.inr "p", V.ref lp)] : List (Key × V)) = mkv ms3 (ad3 la lb lp) := by
    show _ = [((Sum.inr "a" : Key), V.ref (ad3 la lb lp "a")), (Sum.inr "b", V.ref (ad3 la lb lp "b")), (Sum.inr "p", V.ref (ad3 la lb lp "p"))]
    rw [ad3a, ad3b, ad3p]
  rw [e]
  exact merge_mkd _ ms3 [] (by decide)
theorem dl3 {H : Hp} {d la lb lp : Addr} (ed : H d = some (.dK (mkv ms3 (ad3 la lb lp)))) (ea : H la = some (.lst (sv (f3 "a")))) (eb : H lb = some (.lst (sv (f3 "b")))) (ep : H lp = some (.lst (sv (f3 "p")))) : DL H d ms3 (ad3 la lb lp) f3 :=
  ⟨ed, fun m hm => by
    rcases List.mem_cons.mp hm with rfl | hm
    · rw [ad3a]; exact ea
    rcases List.mem_cons.mp hm with rfl | hm
    · rw [ad3b]; exact eb
    · rw [List.mem_singleton.mp hm, ad3p]; exact ep⟩
def spLaw (K : PySem.W.Frag) : Sp := fun vs H Q _ => ∃ (a : Addr) (ns : List Int), vs = [.ref a] ∧ SqL K H a (ns.map V.int) ∧ ns.length ≤ 63 ∧ ∀ H2, Q (.bl true) H2
section
variable {P : Program} {w : World} {K : PySem.W.Frag} {mg : Str → Option Value} {base : Heap} (T : Txt K mg)
theorem ok_law : FnG P w K mg base 7 T.f_law T.fd_law ["_law_script"] (spLaw K) := by
  have GB : FnOk P w K mg base CX0 1 T.f_l_tin T.fd_l_tin ["_law_script", "_law_k"] (spTin K) := ok_tin T
  have GT : FnOk P w K mg base CX0 1 T.f_l_pinch T.fd_l_pinch ["_law_tin_here", "_law_many"] spPinch := ok_pinch T
  have GC : FnOk P w K mg base CX0 2 T.f_l_crew T.fd_l_crew ["_law_tin_here", "_law_most"] spCrew := ok_crew T
  have GW : FnOk P w K mg base CX0 2 T.f_l_walk T.fd_l_walk ["_law_tin_here", "_law_members", "_law_many"] spWalk := ok_l_walk T
  have GL : FnOk P w K mg base CX0 1 T.f_l_lists T.fd_l_lists ["_law_members", "_law_history"] spLists := ok_l_lists T
  have GK : FnOk P w K mg base CX0 3 T.f_l_known T.fd_l_known ["_law_tin_here", "_law_members", "_law_lists_here"] spKnown := ok_known T
  have GA : FnOk P w K mg base CX0 3 T.f_l_any T.fd_l_any ["_law_tin_here", "_law_members", "_law_many"] spAny := ok_any T
  have GO : FnOk P w K mg base CX0 5 T.f_ring_of T.fd_ring_of ["members", "first", "lists"] spRingOf := ok_ring_of T
  have GR : FnG P w K mg base 6 T.f_l_right T.fd_l_right ["_law_members", "_law_first", "_law_lists_here"] spRight := ok_right T
  refine fun_okG T.F_law sc_law (fun vs H Q E h => ?_) (fun cdv A outer s H vs Q E hg hr h => ?_)
  · obtain ⟨a, ns, rfl, _⟩ := h
    rfl
  · obtain ⟨sc, ns, rfl, hS, hns, q⟩ := h
    have hr1 : Room 1 _ := hr.mono (by decide)
    have hr2 : Room 2 _ := hr.mono (by decide)
    have hr3 : Room 3 _ := hr.mono (by decide)
    have hr5 : Room 5 _ := hr.mono (by decide)
    have hu := hu_of hr
    have hu64 : Around.units _ + 64 < cLine := hr.units
    have nd := sc_law.nd
    refine ⟨_, pss_cons (ps_for PassesOwn.never rfl (pi_range1 (by rfl) T.z_range (pa_cons (pe_callB (call_max2 rfl) (by rfl) T.z_max (by decide +kernel) (pa_cons pe_int (pa_cons (pe_callB (call_min2 rfl) (by rfl) T.z_min (by decide +kernel) (pa_cons pe_int (pa_cons (pe_callB call_lenK (by rfl) T.z_len PySem.boot_len (pa_cons (pv 0) pa_nil)) pa_nil))) pa_nil))) pa_nil)) (pg_name (i := 1) nd rfl (.inl rfl))
        (pss_cons (ps_set (i := 2) nd rfl (.inl rfl) (pe_call GB hr1 (by rfl) T.g_l_tin T.F_l_tin.kp T.b_l_tin .nil pass0 (pa_cons (pv 0) (pa_cons (pv 1) pa_nil))))
        (pss_one (ps_for PassesOwn.never rfl (pi_range1 (by rfl) T.z_range (pa_cons pe_int pa_nil)) (pg_name (i := 3) nd rfl (.inl rfl))
          (pss_cons (ps_set (i := 4) nd rfl (.inl rfl) (pe_call GC hr2 (by rfl) T.g_l_crew T.F_l_crew.kp T.b_l_crew .nil pass0 (pa_cons (pv 2) (pa_cons (pe_ifExp (PW.pt (pw_and (pt_cmpR op_eq (pe_op op_add (pv 1) (pv 3)) pe_int (nomark _)) (pw_and1 (pt_cmpR op_eq (pe_call GT hr1 (by rfl) T.g_l_pinch T.F_l_pinch.kp T.b_l_pinch .nil pass0 (pa_cons (pv 2) (pa_cons pe_int pa_nil))) pe_int (nomark _))))) pe_int pe_int) pa_nil))))
          (pss_cons (ps_set (i := 5) nd rfl (.inl rfl) (pe_call GW hr2 (by rfl) T.g_l_walk T.F_l_walk.kp T.b_l_walk .nil pass0 (pa_cons (pv 2) (pa_cons (pv 4) (pa_cons pe_int pa_nil)))))
          (pss_cons (ps_set (i := 6) nd rfl (.inl rfl) (pe_call GK hr3 (by rfl) T.g_l_known T.F_l_known.kp T.b_l_known .nil pass0 (pa_cons (pv 2) (pa_cons (pv 4) (pa_cons (pe_call GL hr1 (by rfl) T.g_l_lists T.F_l_lists.kp T.b_l_lists .nil pass0 (pa_cons (pv 4) (pa_cons (pv 5) pa_nil))) pa_nil)))))
          (pss_cons (ps_if (pt_cmpR op_notN (pe_call GO hr5 (by rfl) T.g_ring_of T.F_ring_of.kp T.b_ring_of .nil pass0 (pa_cons (pv 4) (pa_cons (pe_ix ix_list (pv 5) pe_int (fun _ _ => rfl)) (pa_cons (pv 6) pa_nil)))) pe_non (nomark _)) (pss_one (ps_ret pe_bl)) pss_nil)
          (pss_one (ps_for PassesOwn.never rfl (pi_list (pe_lst (pa_cons (pv 6) (pa_cons (pe_call GA hr3 (by rfl) T.g_l_any T.F_l_any.kp T.b_l_any .nil pass0 (pa_cons (pv 2) (pa_cons (pv 4) (pa_cons pe_int pa_nil))))
              (pa_cons (pe_call GA hr3 (by rfl) T.g_l_any T.F_l_any.kp T.b_l_any .nil pass0 (pa_cons (pv 2) (pa_cons (pv 4) (pa_cons pe_int pa_nil)))) pa_nil))))) (pg_name (i := 7) nd rfl (.inl rfl))
            (pss_one (ps_if (pt_not (pt_val (pe_callG GR (guards_of hg) hr (by rfl) T.g_l_right T.F_l_right.kp T.b_l_right (pa_cons (pv 4) (pa_cons (pe_ix ix_list (pv 4) (pe_call GT hr1 (by rfl) T.g_l_pinch T.F_l_pinch.kp T.b_l_pinch .nil pass0 (pa_cons (pv 2) (pa_cons (pe_callB call_lenK (by rfl) T.z_len PySem.boot_len (pa_cons (pv 4) pa_nil)) pa_nil))) (fun _ _ => rfl)) (pa_cons (pv 7) pa_nil)))))) (pss_one (ps_ret pe_bl)) pss_nil))))))))))))
      (pss_cons (ps_setLc (i := 8) (own := [("_law_first", 9)]) (g := gName 9) (tt := tYes) rfl nd rfl rfl (sw_true rfl rfl rfl (by decide +kernel)) (pi_list (pe_lst (pa_cons pe_str (pa_cons pe_str pa_nil))))
          (blkOk_by (N := ["_law_script", "_law_k", "_law_tin_here", "_law_turn", "_law_members", "_law_history", "_law_known_here", "_law_lists_here", "_law_told", "_law_first"]) (sc := defScope s_law) (by decide +kernel)) (fun _ _ _ _ _ => pg_name (i := 9) nd rfl (.inl rfl)) (fun _ _ _ _ _ => pts_nil)
          (fun _ _ _ _ _ => pe_call GO hr5 (by rfl) T.g_ring_of T.F_ring_of.kp T.b_ring_of .nil pass0 (pa_cons (pe_lst (pa_cons pe_str (pa_cons pe_str (pa_cons pe_str pa_nil)))) (pa_cons (pv 9) (pa_cons (pe_disp (pps_cons pe_str (pe_lst (pa_cons pe_str pa_nil)) (pps_cons pe_str (pe_lst (pa_cons pe_str (pa_cons pe_str pa_nil))) (pps_cons pe_str (pe_lst pa_nil) pps_nil))) rfl rfl (by simp) (by simp)) pa_nil)))))
      (pss_one (ps_ret (pe_cmpR op_eq (pe_callB (call_reprD (guards_of hg) hu64) (by rfl) T.z_repr (by decide +kernel) (pa_cons (pv 8) pa_nil)) pe_str (nomark _))))), ?_⟩
    refine ⟨.ref sc, rfl, sc, ns.map V.int, rfl, .inl hS, _, _, rfl, _, _, rfl, _, rfl, ?_, ?_, ?_⟩
    · split <;> split <;> omega
    · split <;> split <;> omega
    have hN : (if (if ((ns.map V.int).length : Int) < 6 then ((ns.map V.int).length : Int) else 6) > 1 then (if ((ns.map V.int).length : Int) < 6 then ((ns.map V.int).length : Int) else 6) else 1).toNat ≤ 6 := by
      split <;> split <;> omega
    generalize (if (if ((ns.map V.int).length : Int) < 6 then ((ns.map V.int).length : Int) else 6) > 1 then (if ((ns.map V.int).length : Int) < 6 then ((ns.map V.int).length : Int) else 6) else 1).toNat = N at hN
    refine for_it (walk_range (lo := 0) (n := N)) (fun i σ H => ∃ (x1 x2 x3 x4 x5 x6 x7 : Option V), σ = [some (.ref sc), x1, x2, x3, x4, x5, x6, x7, none, none] ∧ SqL K H sc (ns.map V.int)) ⟨none, none, none, none, none, none, none, rfl, hS⟩ (fun _ _ _ _ _ => True.intro) ?_ ?_
    · rintro i v σ H0' H0 hi ⟨x1, x2, x3, x4, x5, x6, x7, rfl, hS0⟩ ⟨rfl, rfl⟩
      refine ⟨.ref sc, rfl, _, rfl, sc, ns, i, (by simp), hS0, by omega, fun H1 b s1 nb B1 => ?_⟩
      refine ⟨4, rfl, by decide, by decide, ?_⟩
      refine for_it (walk_range (lo := 0) (n := 4)) (fun t σ H => ∃ (x3 x4 x5 x6 x7 : Option V), σ = [some (.ref sc), some (.int (0 + (i : Int))), some (.ref b), x3, x4, x5, x6, x7, none, none] ∧ Keep [b] H1 H ∧ Bag H b (30000 * t)) ⟨x3, x4, x5, x6, x7, rfl, Keep.refl _, B1.mono (by omega)⟩ (fun _ _ _ _ _ => True.intro) ?_ ?_
      · rintro t v σ H2' H2 ht ⟨x3, x4, x5, x6, x7, rfl, k2, B2⟩ ⟨rfl, rfl⟩
        -- members
        refine asg_val (fun v H' => Keep [b] H2 H' ∧ Bag H' b (30000 * t + 14) ∧ ∃ p ms, v = .ref p ∧ p ≠ b ∧ H' p = some (.lst (sv ms)) ∧ Members ms) (fun Q2 q2 => ?_) ?_
        · refine ⟨.ref b, rfl, _, rfl, _, rfl, _, _, rfl, rfl, rfl, _, rfl, ite2 (fun w => ?_) (fun w => ?_)⟩
          · refine ⟨.ref b, rfl, b, 4, _, rfl, by decide, by decide, B2, by omega, fun H' r k' B' _ _ => ⟨rfl, _, rfl, ite2 (fun _ => ?_) (fun _ => ?_)⟩⟩
            · exact ⟨b, 12, _, rfl, by decide, by decide, B', by omega, fun H'' p ms k'' B'' np ep M => q2 _ _ ⟨k'.trans k'', B''.mono (by omega), p, ms, rfl, Ne.symm (B'.ne np), ep, M⟩⟩
            · exact ⟨b, 6, _, rfl, by decide, by decide, B', by omega, fun H'' p ms k'' B'' np ep M => q2 _ _ ⟨k'.trans k'', B''.mono (by omega), p, ms, rfl, Ne.symm (B'.ne np), ep, M⟩⟩
          · exact iteF ⟨b, 6, _, rfl, by decide, by decide, B2, by omega, fun H'' p ms k'' B'' np ep M => q2 _ _ ⟨k'', B''.mono (by omega), p, ms, rfl, Ne.symm (B2.ne np), ep, M⟩⟩
        rintro _ H3 ⟨k3, B3, am, ms, rfl, nab, ea, M⟩
        have mhi := M.hi
        have mlo := M.lo
        -- history
        refine ⟨.ref b, rfl, .ref am, rfl, b, am, ms, 30, _, rfl, ea, M, by decide, B3, by omega, nab, fun H4 hh h k4 B4 nhh eh g hl => ?_⟩
        have ea4 := k4 _ _ ea (by simpa using nab)
        have nhb : hh ≠ b := Ne.symm (B3.ne nhh)
        -- known
        refine ⟨.ref b, rfl, .ref am, rfl, .ref am, rfl, .ref hh, rfl, am, hh, ms, h, rfl, ea4, eh, M.nd, by omega, by omega, g.mem, fun H5 d ad s5 dn => ?_⟩
        have B5 := B4.same s5
        have L := givers_of g (by omega)
        refine ⟨b, am, d, ms, ad, _, _, rfl, s5 _ _ ea4, dn.dl, nab, Ne.symm (B4.ne dn.d0), fun m hm => Ne.symm (B4.ne (dn.new m hm)), M, L.len, B5, by omega, fun H6 r ks ae f' k6 B6 nr dl6 nae pk hf => ?_⟩
        have ea6 := k6 _ _ (s5 _ _ ea4) (by simpa using nab)
        have eh6 := k6 _ _ (s5 _ _ eh) (by simpa using nhb)
        have L6 := lists_take L pk hf
        obtain ⟨p, r0, hd⟩ : ∃ p r0, h = p :: r0 := by
          cases hq : h with
          | nil => exact absurd hq g.ne
          | cons p r0 => exact ⟨p, r0, rfl⟩
        have hp0 : h[0]? = some p := by rw [hd]; rfl
        have pm : p ∈ ms := g.mem p (List.mem_of_getElem? hp0)
        have nrg := no_ring (ms := ms) hd hf
        have nrb : r ≠ b := Ne.symm (B5.ne nr)
        have naeb : ∀ m ∈ ks, ae m ≠ b := fun m hm => Ne.symm (B5.ne (nae m hm))
        refine ⟨.ref am, rfl, .ref hh, rfl, hh, sv h, 0, .str p, rfl, rfl, sqL eh6, atI_nat (j := 0) (sv_get hp0), .ref r, rfl, am, r, ms, ks, ae, f', p, rfl, ea6, dl6, M, L6, pm, gives_of fun H7 v s7 fv => ?_⟩
        obtain rfl : v = .non := by
          rcases fv with ⟨_, e⟩ | ⟨x, l, e, _⟩
          · exact e
          · rw [nrg] at e; cases e
        refine ⟨rfl, _, rfl, ?_⟩
        rw [decide_eq_true rfl]
        refine iteF ?_
        have ea7 := s7 _ _ ea6
        have B7 := B6.same s7
        refine ⟨.ref r, rfl, .ref b, rfl, .ref am, rfl, b, am, ms, 12, _, rfl, ea7, nab, M, by decide, B7, by omega, fun H8 r1 ks1 ae1 f1 k8 B8 nr1 dl8 nae1 L8 => ?_⟩
        have ea8 := k8 _ _ ea7 (by simpa using nab)
        refine ⟨.ref b, rfl, .ref am, rfl, b, am, ms, 40, _, rfl, ea8, nab, M, by decide, B8, by omega, fun H9 r2 ks2 ae2 f2 k9 B9 nr2 dl9 nae2 L9 => ⟨(by show 3 ≤ sizeLine; decide), fun t0 nt0 => ?_⟩⟩
        have nr1b : r1 ≠ b := Ne.symm (B7.ne nr1)
        have na1b : ∀ m ∈ ks1, ae1 m ≠ b := fun m hm => Ne.symm (B7.ne (nae1 m hm))
        have nr2b : r2 ≠ b := Ne.symm (B8.ne nr2)
        have na2b : ∀ m ∈ ks2, ae2 m ≠ b := fun m hm => Ne.symm (B8.ne (nae2 m hm))
        have k79 := k8.trans k9
        have dl0 := (dl6.same s7).keep k79 (by simpa using nrb) (fun m hm => by simpa using naeb m hm)
        have dl1 := dl8.keep k9 (by simpa using nr1b) (fun m hm => by simpa using na1b m hm)
        have ea9 := k9 _ _ ea8 (by simpa using nab)
        have s10 : Same H9 (upd H9 t0 (.lst [.ref r, .ref r1, .ref r2])) := same_new nt0
        have et0 : (upd H9 t0 (.lst [.ref r, .ref r1, .ref r2])) t0 = some (.lst [.ref r, .ref r1, .ref r2]) := upd_same
        have ntb : t0 ≠ b := Ne.symm (B9.ne nt0)
        generalize upd H9 t0 (.lst [.ref r, .ref r1, .ref r2]) = H10 at s10 et0
        have B10 := B9.same s10
        have ea10 := s10 _ _ ea9
        have gd : ∀ (j : Nat) (x : V), ([.ref r, .ref r1, .ref r2] : List V)[j]? = some x → ∃ rr ks ae f, x = .ref rr ∧ DL H10 rr ks ae f ∧ ListsOf ms ks f ∧ rr ≠ b ∧ ∀ m ∈ ks, ae m ≠ b := by
          intro j x hx
          match j, hx with
          | 0, hx => cases hx; exact ⟨r, ks, ae, f', rfl, dl0.same s10, L6, nrb, naeb⟩
          | 1, hx => cases hx; exact ⟨r1, ks1, ae1, f1, rfl, dl1.same s10, L8, nr1b, na1b⟩
          | 2, hx => cases hx; exact ⟨r2, ks2, ae2, f2, rfl, dl9.same s10, L9, nr2b, na2b⟩
          | (j + 3), hx => simp at hx
        have k110 : Keep [b] H1 H10 := k2.trans (k3.trans (k4.trans ((Keep.of_same s5).trans (k6.trans ((Keep.of_same s7).trans (k79.trans (Keep.of_same s10)))))))
        refine ⟨t0, rfl, ⟨_, sqL et0⟩, for_it (walk_list (xs := [.ref r, .ref r1, .ref r2])) (fun j σ H => ∃ x7, σ = [some (.ref sc), some (.int (0 + (i : Int))), some (.ref b), some (.int (0 + (t : Int))), some (.ref am), some (.ref hh), some (.ref r), x7, none, none] ∧ Keep [b] H10 H ∧ Bag H b (30000 * t + 2000 + j)) ⟨x7, rfl, Keep.refl _, B10.mono (by omega)⟩ (fun j σ H _ pp => by obtain ⟨_, _, k, _⟩ := pp; exact sqL (k _ _ et0 (by simpa using ntb))) ?_ ?_⟩
        · rintro j x σ H11' H11 hj ⟨y7, rfl, k11, B11⟩ ⟨rfl, hx⟩
          have hj3 : j < 3 := hj
          obtain ⟨rr, kz, az, fz, rfl, dlz, Lz, nzb, nazb⟩ := gd j x hx
          have ea11 := k11 _ _ ea10 (by simpa using nab)
          have lms : (sv ms).length = ms.length := List.length_map _
          refine ⟨.ref am, rfl, .ref am, rfl, .ref b, rfl, .ref am, rfl, am, sv ms, rfl, .inl (sqL ea11), b, _, _, rfl, by omega, by omega, B11, by omega, fun H12 u k12 B12 u0 u1 => ?_⟩
          have hu2 : u.toNat < ms.length := by omega
          have eu : ms[u.toNat]? = some ms[u.toNat] := List.getElem?_eq_getElem hu2
          have um := List.getElem_mem hu2
          generalize ms[u.toNat] = y at eu um
          have ea12 := k12 _ _ ea11 (by simpa using nab)
          have k1012 := k11.trans k12
          refine ⟨am, sv ms, u, .str y, rfl, rfl, sqL ea12, at_of (j := u.toNat) (by omega) (sv_get eu), .ref rr, rfl, am, rr, ms, kz, az, fz, y, rfl, ea12, dlz.keep k1012 (by simpa using nzb) (fun m hm => by simpa using nazb m hm), M, Lz, um, fun H13 s13 => ⟨true, rfl, iteF ?_⟩⟩
          exact ⟨_, rfl, k1012.trans (Keep.of_same s13), (B12.same s13).mono (by omega)⟩
        · rintro σ H11 ⟨y7, rfl, k11, B11⟩
          exact ⟨_, _, _, _, _, rfl, k110.trans k11, B11.mono (by show _ + 3 ≤ _; omega)⟩
      · rintro σ H2 ⟨x3, x4, x5, x6, x7, rfl, k2, B2⟩
        exact ⟨_, _, _, _, _, _, _, rfl, seq_keep hS0 s1 nb k2⟩
    · rintro σ H1 ⟨x1, x2, x3, x4, x5, x6, x7, rfl, hS1⟩
      refine ⟨(by show 2 ≤ sizeLine; decide), fun c0 n0 => ⟨c0, rfl, ⟨_, sqL upd_same⟩, fun D nD => ?_⟩⟩
      have hc0 : (upd H1 c0 (.lst [.str "p", .str "a"])) c0 = some (.lst (sv (["p", "a"] : List Str))) := upd_same
      generalize upd H1 c0 (.lst [.str "p", .str "a"]) = H2 at hc0 nD
      refine lc_it (walk_sv (["p", "a"] : List Str)) (fun i H3 => Same H2 H3 ∧ ∃ vs : List V, H3 D = some (.lst vs) ∧ vs.length = i ∧ ∀ (j : Nat) (v : V) (m : Str), vs[j]? = some v → (["p", "a"] : List Str)[j]? = some m → v ≠ .ref D ∧ Found (ringOf ms3 m f3) H2 H3 v)
        ⟨same_new nD, [], upd_same, rfl, fun j v m h => by simp at h⟩ (fun i H3 _ p => sqL (p.1 _ _ hc0)) ?_ ?_
      · rintro i x H3' H3 hi ⟨s3, vs, eD, lv, hv3⟩ ⟨rfl, m, hm, rfl⟩
        have mm : m ∈ ms3 := by
          have := List.mem_of_getElem? hm
          rcases List.mem_cons.mp this with rfl | this
          · decide
          · rw [List.mem_singleton.mp this]; decide
        refine ⟨rfl, (by show 3 ≤ sizeLine; decide), fun l1 n1 => ⟨.str m, rfl, ?_⟩⟩
        have t1 : Same H3 (upd H3 l1 (.lst [.str "a", .str "b", .str "p"])) := same_new n1
        have e1 : (upd H3 l1 (.lst [.str "a", .str "b", .str "p"])) l1 = some (.lst (sv ms3)) := upd_same
        generalize upd H3 l1 (.lst [.str "a", .str "b", .str "p"]) = H4 at t1 e1
        intro d nd4
        have t2 : Same H4 (upd H4 d (.dK [])) := same_new nd4
        have e2 : (upd H4 d (.dK [])) d = some (.dK []) := upd_same
        generalize upd H4 d (.dK []) = H5 at t2 e2
        refine ⟨(by show 1 ≤ sizeLine; decide), fun la na => ?_⟩
        have t3 : Same H5 (upd H5 la (.lst [.str "b"])) := same_new na
        have ea : (upd H5 la (.lst [.str "b"])) la = some (.lst (sv (f3 "a"))) := upd_same
        generalize upd H5 la (.lst [.str "b"]) = H6 at t3 ea
        refine ⟨(by show 2 ≤ sizeLine; decide), fun lb nb => ?_⟩
        have t4 : Same H6 (upd H6 lb (.lst [.str "a", .str "p"])) := same_new nb
        have eb : (upd H6 lb (.lst [.str "a", .str "p"])) lb = some (.lst (sv (f3 "b"))) := upd_same
        generalize upd H6 lb (.lst [.str "a", .str "p"]) = H7 at t4 eb
        refine ⟨Nat.zero_le _, fun lp np => ?_⟩
        have t5 : Same H7 (upd H7 lp (.lst [])) := same_new np
        have ep : (upd H7 lp (.lst [])) lp = some (.lst (sv (f3 "p"))) := upd_same
        generalize upd H7 lp (.lst []) = H8 at t5 ep
        have e28 := t5 _ _ (t4 _ _ (t3 _ _ e2))
        have ea8 := t5 _ _ (t4 _ _ ea)
        have eb8 := t5 _ _ eb
        refine ⟨e28, [(.inr "a", .ref la), (.inr "b", .ref lb), (.inr "p", .ref lp)], rfl, (by show 3 ≤ 15; decide), ?_⟩
        rw [kv3]
        have nad : la ≠ d := ne_of ea8 e28 (fun z => by cases z)
        have nbd : lb ≠ d := ne_of eb8 e28 (fun z => by cases z)
        have npd : lp ≠ d := ne_of ep e28 (fun z => by cases z)
        have n1d : l1 ≠ d := ne_of (t2 _ _ e1) e2 (fun z => by cases z)
        have e18 := t5 _ _ (t4 _ _ (t3 _ _ (t2 _ _ e1)))
        have sA : Same H3 (L2.upd H8 d (.dK (mkv ms3 (ad3 la lb lp)))) := same_mut (t1.trans (t2.trans (t3.trans (t4.trans t5)))) (t1.free nd4)
        have dl : DL (L2.upd H8 d (.dK (mkv ms3 (ad3 la lb lp)))) d ms3 (ad3 la lb lp) f3 := dl3 upd_same (by rw [upd_ne nad]; exact ea8) (by rw [upd_ne nbd]; exact eb8) (by rw [upd_ne npd]; exact ep)
        refine ⟨l1, d, ms3, ms3, ad3 la lb lp, f3, m, rfl, by rw [upd_ne n1d]; exact e18, dl, mem3, lists3, mm, gives_of fun H9 v s9 fv => ?_⟩
        have s39 := sA.trans s9
        have vD : v ≠ .ref D := by
          rcases fv with ⟨_, e⟩ | ⟨r, l, _, e, nl, _⟩
          · rw [e]; intro z; cases z
          · rw [e]
            intro z
            have : l = D := V.ref.inj z
            subst this
            rw [sA _ _ eD] at nl
            cases nl
        have fv' : Found (ringOf ms3 m f3) H2 (L2.upd H9 D (.lst (vs ++ [v]))) v := by
          rcases fv with ⟨e1, e⟩ | ⟨r, l, e1, e, nl, el⟩
          · exact .inl ⟨e1, e⟩
          · refine .inr ⟨r, l, e1, e, (s3.trans sA).free nl, ?_⟩
            rw [upd_ne (fun z => vD (by rw [e, z]))]
            exact el
        refine ⟨vs, s39 _ _ eD, sz (by have : i < 2 := hi; omega), same_mut (s3.trans s39) nD, vs ++ [v], upd_same, by rw [List.length_append, lv]; rfl, fun j u y hj hy => ?_⟩
        rcases Nat.lt_or_ge j vs.length with lt | ge
        · rw [List.getElem?_append_left lt] at hj
          obtain ⟨h1, h2⟩ := hv3 j u y hj hy
          refine ⟨h1, ?_⟩
          rcases h2 with h2 | ⟨r, l, e1, e, nl, el⟩
          · exact .inl h2
          · refine .inr ⟨r, l, e1, e, nl, ?_⟩
            rw [upd_ne (fun z => h1 (by rw [e, z]))]
            exact s39 _ _ el
        · rw [List.getElem?_append_right ge] at hj
          have e0 : j - vs.length = 0 := by
            have := (List.getElem?_eq_some_iff.mp hj).1
            simp at this
            omega
          rw [e0] at hj
          have ej : j = i := by omega
          subst ej
          rw [hm] at hy
          cases hy
          cases hj
          exact ⟨vD, fv'⟩
      · rintro H3 ⟨s3, vs, eD, lv, hv3⟩
        match vs, lv, hv3, eD with
        | [v0, v1], _, hv3, eD =>
          have h0 := (hv3 0 v0 "p" rfl rfl).2
          have h1 := (hv3 1 v1 "a" rfl rfl).2
          rw [ring3p] at h0
          rw [ring3a] at h1
          rcases h0 with ⟨z, _⟩ | ⟨r, l, er, e, nl, el⟩
          · cases z
          · cases er
            rcases h1 with ⟨_, e1⟩ | ⟨_, _, z, _⟩
            · subst e e1
              have sh : Sh H3 (.ref D) (.list [nmD (["a", "b"] : List Str), .none]) := .lst eD (.cons (sh_nmD el) (.cons .non .nil))
              refine ⟨.ref D, rfl, D, _, rfl, sh, by decide +kernel, by decide +kernel, ?_, ?_⟩
              · rw [text3]; decide +kernel
              · rw [text3]
                refine ⟨rfl, ?_⟩
                rw [decide_eq_true rfl]
                exact q H3
            · cases z
end
/-! ### what the top has written (printed by gen.py) -/
theorem all_mk {l : PySem.W.OpenLaw} {w : World} {K : PySem.W.Frag} {h : Heap} {mg : Str → Option Value} {fa f_is_name f_is_members f_need_members f_is_member f_need_member f_are_lists_of f_need_lists f_starts_of f_ring_at f_least_ring f_ring_of f_l_tin f_l_pinch f_l_crew f_l_walk f_l_lists f_l_shuffled f_l_known f_l_any f_l_ring f_l_right f_law : Addr} (X : K.In h) (G : h.Ns mainGlobals mg) (hfa : mg "law" = some (.ref fa))
    {od1 an1 : Option Addr} {sl1 : Array (Option Value)} {oc1 kV1 dc1 pm1 cd1 ct1 : Value} {od2 an2 : Option Addr} {sl2 : Array (Option Value)} {oc2 kV2 dc2 pm2 cd2 ct2 : Value} {od3 an3 : Option Addr} {sl3 : Array (Option Value)} {oc3 kV3 dc3 pm3 cd3 ct3 : Value} {od4 an4 : Option Addr} {sl4 : Array (Option Value)} {oc4 kV4 dc4 pm4 cd4 ct4 : Value} {od5 an5 : Option Addr} {sl5 : Array (Option Value)} {oc5 kV5 dc5 pm5 cd5 ct5 : Value} {od6 an6 : Option Addr} {sl6 : Array (Option Value)} {oc6 kV6 dc6 pm6 cd6 ct6 : Value} {od7 an7 : Option Addr} {sl7 : Array (Option Value)} {oc7 kV7 dc7 pm7 cd7 ct7 : Value} {od8 an8 : Option Addr} {sl8 : Array (Option Value)} {oc8 kV8 dc8 pm8 cd8 ct8 : Value} {od9 an9 : Option Addr} {sl9 : Array (Option Value)} {oc9 kV9 dc9 pm9 cd9 ct9 : Value} {od10 an10 : Option Addr} {sl10 : Array (Option Value)} {oc10 kV10 dc10 pm10 cd10 ct10 : Value} {od11 an11 : Option Addr} {sl11 : Array (Option Value)} {oc11 kV11 dc11 pm11 cd11 ct11 : Value} {od12 an12 : Option Addr} {sl12 : Array (Option Value)} {oc12 kV12 dc12 pm12 cd12 ct12 : Value} {od13 an13 : Option Addr} {sl13 : Array (Option Value)} {oc13 kV13 dc13 pm13 cd13 ct13 : Value} {od14 an14 : Option Addr} {sl14 : Array (Option Value)} {oc14 kV14 dc14 pm14 cd14 ct14 : Value} {od15 an15 : Option Addr} {sl15 : Array (Option Value)} {oc15 kV15 dc15 pm15 cd15 ct15 : Value} {od16 an16 : Option Addr} {sl16 : Array (Option Value)} {oc16 kV16 dc16 pm16 cd16 ct16 : Value} {od17 an17 : Option Addr} {sl17 : Array (Option Value)} {oc17 kV17 dc17 pm17 cd17 ct17 : Value} {od18 an18 : Option Addr} {sl18 : Array (Option Value)} {oc18 kV18 dc18 pm18 cd18 ct18 : Value} {od19 an19 : Option Addr} {sl19 : Array (Option Value)} {oc19 kV19 dc19 pm19 cd19 ct19 : Value} {od20 an20 : Option Addr} {sl20 : Array (Option Value)} {oc20 kV20 dc20 pm20 cd20 ct20 : Value} {od21 an21 : Option Addr} {sl21 : Array (Option Value)} {oc21 kV21 dc21 pm21 cd21 ct21 : Value} {od22 an22 : Option Addr} {sl22 : Array (Option Value)} {oc22 kV22 dc22 pm22 cd22 ct22 : Value} {t_LETTERS : Tok} {t_MAX_LETTERS : Tok} {t_MAX_MEMBERS : Tok}
    (a1 : PySem.W.nsIn K mainGlobals "is_name" = some (some (.ref f_is_name)))
    (l1 : K.lookup f_is_name = some ⟨oc1, od1, .func (PySem.W.fnOf "is_name" "is_name" (defArgs s_is_name) (defBody s_is_name) (defScope s_is_name) .none kV1 dc1 pm1 an1 cd1 ct1), sl1⟩)
    (c1 : PySem.W.codeIn K cd1 "is_name" = true) (k1 : PySem.W.keepIn K (.ref f_is_name) = true)
    (a2 : PySem.W.nsIn K mainGlobals "is_members" = some (some (.ref f_is_members)))
    (l2 : K.lookup f_is_members = some ⟨oc2, od2, .func (PySem.W.fnOf "is_members" "is_members" (defArgs s_is_members) (defBody s_is_members) (defScope s_is_members) .none kV2 dc2 pm2 an2 cd2 ct2), sl2⟩)
    (c2 : PySem.W.codeIn K cd2 "is_members" = true) (k2 : PySem.W.keepIn K (.ref f_is_members) = true)
    (a3 : PySem.W.nsIn K mainGlobals "need_members" = some (some (.ref f_need_members)))
    (l3 : K.lookup f_need_members = some ⟨oc3, od3, .func (PySem.W.fnOf "need_members" "need_members" (defArgs s_need_members) (defBody s_need_members) (defScope s_need_members) .none kV3 dc3 pm3 an3 cd3 ct3), sl3⟩)
    (c3 : PySem.W.codeIn K cd3 "need_members" = true) (k3 : PySem.W.keepIn K (.ref f_need_members) = true)
    (a4 : PySem.W.nsIn K mainGlobals "is_member" = some (some (.ref f_is_member)))
    (l4 : K.lookup f_is_member = some ⟨oc4, od4, .func (PySem.W.fnOf "is_member" "is_member" (defArgs s_is_member) (defBody s_is_member) (defScope s_is_member) .none kV4 dc4 pm4 an4 cd4 ct4), sl4⟩)
    (c4 : PySem.W.codeIn K cd4 "is_member" = true) (k4 : PySem.W.keepIn K (.ref f_is_member) = true)
    (a5 : PySem.W.nsIn K mainGlobals "need_member" = some (some (.ref f_need_member)))
    (l5 : K.lookup f_need_member = some ⟨oc5, od5, .func (PySem.W.fnOf "need_member" "need_member" (defArgs s_need_member) (defBody s_need_member) (defScope s_need_member) .none kV5 dc5 pm5 an5 cd5 ct5), sl5⟩)
    (c5 : PySem.W.codeIn K cd5 "need_member" = true) (k5 : PySem.W.keepIn K (.ref f_need_member) = true)
    (a6 : PySem.W.nsIn K mainGlobals "are_lists_of" = some (some (.ref f_are_lists_of)))
    (l6 : K.lookup f_are_lists_of = some ⟨oc6, od6, .func (PySem.W.fnOf "are_lists_of" "are_lists_of" (defArgs s_are_lists_of) (defBody s_are_lists_of) (defScope s_are_lists_of) .none kV6 dc6 pm6 an6 cd6 ct6), sl6⟩)
    (c6 : PySem.W.codeIn K cd6 "are_lists_of" = true) (k6 : PySem.W.keepIn K (.ref f_are_lists_of) = true)
    (a7 : PySem.W.nsIn K mainGlobals "need_lists" = some (some (.ref f_need_lists)))
    (l7 : K.lookup f_need_lists = some ⟨oc7, od7, .func (PySem.W.fnOf "need_lists" "need_lists" (defArgs s_need_lists) (defBody s_need_lists) (defScope s_need_lists) .none kV7 dc7 pm7 an7 cd7 ct7), sl7⟩)
    (c7 : PySem.W.codeIn K cd7 "need_lists" = true) (k7 : PySem.W.keepIn K (.ref f_need_lists) = true)
    (a8 : PySem.W.nsIn K mainGlobals "starts_of" = some (some (.ref f_starts_of)))
    (l8 : K.lookup f_starts_of = some ⟨oc8, od8, .func (PySem.W.fnOf "starts_of" "starts_of" (defArgs s_starts_of) (defBody s_starts_of) (defScope s_starts_of) .none kV8 dc8 pm8 an8 cd8 ct8), sl8⟩)
    (c8 : PySem.W.codeIn K cd8 "starts_of" = true) (k8 : PySem.W.keepIn K (.ref f_starts_of) = true)
    (a9 : PySem.W.nsIn K mainGlobals "ring_at" = some (some (.ref f_ring_at)))
    (l9 : K.lookup f_ring_at = some ⟨oc9, od9, .func (PySem.W.fnOf "ring_at" "ring_at" (defArgs s_ring_at) (defBody s_ring_at) (defScope s_ring_at) .none kV9 dc9 pm9 an9 cd9 ct9), sl9⟩)
    (c9 : PySem.W.codeIn K cd9 "ring_at" = true) (k9 : PySem.W.keepIn K (.ref f_ring_at) = true)
    (a10 : PySem.W.nsIn K mainGlobals "least_ring" = some (some (.ref f_least_ring)))
    (l10 : K.lookup f_least_ring = some ⟨oc10, od10, .func (PySem.W.fnOf "least_ring" "least_ring" (defArgs s_least_ring) (defBody s_least_ring) (defScope s_least_ring) .none kV10 dc10 pm10 an10 cd10 ct10), sl10⟩)
    (c10 : PySem.W.codeIn K cd10 "least_ring" = true) (k10 : PySem.W.keepIn K (.ref f_least_ring) = true)
    (a11 : PySem.W.nsIn K mainGlobals "ring_of" = some (some (.ref f_ring_of)))
    (l11 : K.lookup f_ring_of = some ⟨oc11, od11, .func (PySem.W.fnOf "ring_of" "ring_of" (defArgs s_ring_of) (defBody s_ring_of) (defScope s_ring_of) .none kV11 dc11 pm11 an11 cd11 ct11), sl11⟩)
    (c11 : PySem.W.codeIn K cd11 "ring_of" = true) (k11 : PySem.W.keepIn K (.ref f_ring_of) = true)
    (a12 : PySem.W.nsIn K mainGlobals "_law_tin" = some (some (.ref f_l_tin)))
    (l12 : K.lookup f_l_tin = some ⟨oc12, od12, .func (PySem.W.fnOf "_law_tin" "_law_tin" (defArgs s_l_tin) (defBody s_l_tin) (defScope s_l_tin) .none kV12 dc12 pm12 an12 cd12 ct12), sl12⟩)
    (c12 : PySem.W.codeIn K cd12 "_law_tin" = true) (k12 : PySem.W.keepIn K (.ref f_l_tin) = true)
    (a13 : PySem.W.nsIn K mainGlobals "_law_pinch" = some (some (.ref f_l_pinch)))
    (l13 : K.lookup f_l_pinch = some ⟨oc13, od13, .func (PySem.W.fnOf "_law_pinch" "_law_pinch" (defArgs s_l_pinch) (defBody s_l_pinch) (defScope s_l_pinch) .none kV13 dc13 pm13 an13 cd13 ct13), sl13⟩)
    (c13 : PySem.W.codeIn K cd13 "_law_pinch" = true) (k13 : PySem.W.keepIn K (.ref f_l_pinch) = true)
    (a14 : PySem.W.nsIn K mainGlobals "_law_crew" = some (some (.ref f_l_crew)))
    (l14 : K.lookup f_l_crew = some ⟨oc14, od14, .func (PySem.W.fnOf "_law_crew" "_law_crew" (defArgs s_l_crew) (defBody s_l_crew) (defScope s_l_crew) .none kV14 dc14 pm14 an14 cd14 ct14), sl14⟩)
    (c14 : PySem.W.codeIn K cd14 "_law_crew" = true) (k14 : PySem.W.keepIn K (.ref f_l_crew) = true)
    (a15 : PySem.W.nsIn K mainGlobals "_law_walk" = some (some (.ref f_l_walk)))
    (l15 : K.lookup f_l_walk = some ⟨oc15, od15, .func (PySem.W.fnOf "_law_walk" "_law_walk" (defArgs s_l_walk) (defBody s_l_walk) (defScope s_l_walk) .none kV15 dc15 pm15 an15 cd15 ct15), sl15⟩)
    (c15 : PySem.W.codeIn K cd15 "_law_walk" = true) (k15 : PySem.W.keepIn K (.ref f_l_walk) = true)
    (a16 : PySem.W.nsIn K mainGlobals "_law_lists" = some (some (.ref f_l_lists)))
    (l16 : K.lookup f_l_lists = some ⟨oc16, od16, .func (PySem.W.fnOf "_law_lists" "_law_lists" (defArgs s_l_lists) (defBody s_l_lists) (defScope s_l_lists) .none kV16 dc16 pm16 an16 cd16 ct16), sl16⟩)
    (c16 : PySem.W.codeIn K cd16 "_law_lists" = true) (k16 : PySem.W.keepIn K (.ref f_l_lists) = true)
    (a17 : PySem.W.nsIn K mainGlobals "_law_shuffled" = some (some (.ref f_l_shuffled)))
    (l17 : K.lookup f_l_shuffled = some ⟨oc17, od17, .func (PySem.W.fnOf "_law_shuffled" "_law_shuffled" (defArgs s_l_shuffled) (defBody s_l_shuffled) (defScope s_l_shuffled) .none kV17 dc17 pm17 an17 cd17 ct17), sl17⟩)
    (c17 : PySem.W.codeIn K cd17 "_law_shuffled" = true) (k17 : PySem.W.keepIn K (.ref f_l_shuffled) = true)
    (a18 : PySem.W.nsIn K mainGlobals "_law_known" = some (some (.ref f_l_known)))
    (l18 : K.lookup f_l_known = some ⟨oc18, od18, .func (PySem.W.fnOf "_law_known" "_law_known" (defArgs s_l_known) (defBody s_l_known) (defScope s_l_known) .none kV18 dc18 pm18 an18 cd18 ct18), sl18⟩)
    (c18 : PySem.W.codeIn K cd18 "_law_known" = true) (k18 : PySem.W.keepIn K (.ref f_l_known) = true)
    (a19 : PySem.W.nsIn K mainGlobals "_law_any" = some (some (.ref f_l_any)))
    (l19 : K.lookup f_l_any = some ⟨oc19, od19, .func (PySem.W.fnOf "_law_any" "_law_any" (defArgs s_l_any) (defBody s_l_any) (defScope s_l_any) .none kV19 dc19 pm19 an19 cd19 ct19), sl19⟩)
    (c19 : PySem.W.codeIn K cd19 "_law_any" = true) (k19 : PySem.W.keepIn K (.ref f_l_any) = true)
    (a20 : PySem.W.nsIn K mainGlobals "_law_ring" = some (some (.ref f_l_ring)))
    (l20 : K.lookup f_l_ring = some ⟨oc20, od20, .func (PySem.W.fnOf "_law_ring" "_law_ring" (defArgs s_l_ring) (defBody s_l_ring) (defScope s_l_ring) .none kV20 dc20 pm20 an20 cd20 ct20), sl20⟩)
    (c20 : PySem.W.codeIn K cd20 "_law_ring" = true) (k20 : PySem.W.keepIn K (.ref f_l_ring) = true)
    (a21 : PySem.W.nsIn K mainGlobals "_law_right" = some (some (.ref f_l_right)))
    (l21 : K.lookup f_l_right = some ⟨oc21, od21, .func (PySem.W.fnOf "_law_right" "_law_right" (defArgs s_l_right) (defBody s_l_right) (defScope s_l_right) .none kV21 dc21 pm21 an21 cd21 ct21), sl21⟩)
    (c21 : PySem.W.codeIn K cd21 "_law_right" = true) (k21 : PySem.W.keepIn K (.ref f_l_right) = true)
    (a22 : PySem.W.nsIn K mainGlobals "law" = some (some (.ref f_law)))
    (l22 : K.lookup f_law = some ⟨oc22, od22, .func (PySem.W.fnOf "law" "law" (defArgs s_law) (defBody s_law) (defScope s_law) .none kV22 dc22 pm22 an22 cd22 ct22), sl22⟩)
    (c22 : PySem.W.codeIn K cd22 "law" = true) (k22 : PySem.W.keepIn K (.ref f_law) = true)
    (co_LETTERS : PySem.W.nsIn K mainGlobals "LETTERS" = some (some (.str "abcdefghijklmnopqrstuvwxyz" t_LETTERS)))
    (co_MAX_LETTERS : PySem.W.nsIn K mainGlobals "MAX_LETTERS" = some (some (.int 8 t_MAX_LETTERS)))
    (co_MAX_MEMBERS : PySem.W.nsIn K mainGlobals "MAX_MEMBERS" = some (some (.int 12 t_MAX_MEMBERS)))
    (z_abs : PySem.W.nsIn K mainGlobals "abs" = some none)
    (z_all : PySem.W.nsIn K mainGlobals "all" = some none)
    (z_dict : PySem.W.nsIn K mainGlobals "dict" = some none)
    (z_int : PySem.W.nsIn K mainGlobals "int" = some none)
    (z_isinstance : PySem.W.nsIn K mainGlobals "isinstance" = some none)
    (z_len : PySem.W.nsIn K mainGlobals "len" = some none)
    (z_list : PySem.W.nsIn K mainGlobals "list" = some none)
    (z_max : PySem.W.nsIn K mainGlobals "max" = some none)
    (z_min : PySem.W.nsIn K mainGlobals "min" = some none)
    (z_range : PySem.W.nsIn K mainGlobals "range" = some none)
    (z_repr : PySem.W.nsIn K mainGlobals "repr" = some none)
    (z_sorted : PySem.W.nsIn K mainGlobals "sorted" = some none)
    (z_str : PySem.W.nsIn K mainGlobals "str" = some none)
    (z_zip : PySem.W.nsIn K mainGlobals "zip" = some none) :
    ∃ fd : FuncData, (∀ (s : Shared) (v : Value), BindsTo s fd ⟨[v], []⟩ [("_law_script", v)]) ∧ ∀ base : Heap, K.In base → base.Ns mainGlobals mg → FnG l.prog w K mg base 7 fa fd ["_law_script"] (spLaw K) := by
  have e := hfa.symm.trans (PySem.W.mg_of X G a22)
  cases e
  let T : Txt K mg := {
    f_is_name := f_is_name
    fd_is_name := _
    F_is_name := fun_mk (st := s_is_name) l1 c1 k1
    b_is_name := ((fun_mk (st := s_is_name) l1 c1 k1).binds (ps := ["value"]) fun _ _ _ _ _ _ us hl => match us, hl with | [_], _ => rfl)
    g_is_name := PySem.W.mg_of X G a1
    f_is_members := f_is_members
    fd_is_members := _
    F_is_members := fun_mk (st := s_is_members) l2 c2 k2
    b_is_members := ((fun_mk (st := s_is_members) l2 c2 k2).binds (ps := ["value"]) fun _ _ _ _ _ _ us hl => match us, hl with | [_], _ => rfl)
    g_is_members := PySem.W.mg_of X G a2
    f_need_members := f_need_members
    fd_need_members := _
    F_need_members := fun_mk (st := s_need_members) l3 c3 k3
    b_need_members := ((fun_mk (st := s_need_members) l3 c3 k3).binds (ps := ["members"]) fun _ _ _ _ _ _ us hl => match us, hl with | [_], _ => rfl)
    g_need_members := PySem.W.mg_of X G a3
    f_is_member := f_is_member
    fd_is_member := _
    F_is_member := fun_mk (st := s_is_member) l4 c4 k4
    b_is_member := ((fun_mk (st := s_is_member) l4 c4 k4).binds (ps := ["members", "value"]) fun _ _ _ _ _ _ us hl => match us, hl with | [_, _], _ => rfl)
    g_is_member := PySem.W.mg_of X G a4
    f_need_member := f_need_member
    fd_need_member := _
    F_need_member := fun_mk (st := s_need_member) l5 c5 k5
    b_need_member := ((fun_mk (st := s_need_member) l5 c5 k5).binds (ps := ["members", "value"]) fun _ _ _ _ _ _ us hl => match us, hl with | [_, _], _ => rfl)
    g_need_member := PySem.W.mg_of X G a5
    f_are_lists_of := f_are_lists_of
    fd_are_lists_of := _
    F_are_lists_of := fun_mk (st := s_are_lists_of) l6 c6 k6
    b_are_lists_of := ((fun_mk (st := s_are_lists_of) l6 c6 k6).binds (ps := ["members", "value"]) fun _ _ _ _ _ _ us hl => match us, hl with | [_, _], _ => rfl)
    g_are_lists_of := PySem.W.mg_of X G a6
    f_need_lists := f_need_lists
    fd_need_lists := _
    F_need_lists := fun_mk (st := s_need_lists) l7 c7 k7
    b_need_lists := ((fun_mk (st := s_need_lists) l7 c7 k7).binds (ps := ["members", "first", "lists"]) fun _ _ _ _ _ _ us hl => match us, hl with | [_, _, _], _ => rfl)
    g_need_lists := PySem.W.mg_of X G a7
    f_starts_of := f_starts_of
    fd_starts_of := _
    F_starts_of := fun_mk (st := s_starts_of) l8 c8 k8
    b_starts_of := ((fun_mk (st := s_starts_of) l8 c8 k8).binds (ps := ["members", "first", "lists"]) fun _ _ _ _ _ _ us hl => match us, hl with | [_, _, _], _ => rfl)
    g_starts_of := PySem.W.mg_of X G a8
    f_ring_at := f_ring_at
    fd_ring_at := _
    F_ring_at := fun_mk (st := s_ring_at) l9 c9 k9
    b_ring_at := ((fun_mk (st := s_ring_at) l9 c9 k9).binds (ps := ["starts", "member"]) fun _ _ _ _ _ _ us hl => match us, hl with | [_, _], _ => rfl)
    g_ring_at := PySem.W.mg_of X G a9
    f_least_ring := f_least_ring
    fd_least_ring := _
    F_least_ring := fun_mk (st := s_least_ring) l10 c10 k10
    b_least_ring := ((fun_mk (st := s_least_ring) l10 c10 k10).binds (ps := ["starts"]) fun _ _ _ _ _ _ us hl => match us, hl with | [_], _ => rfl)
    g_least_ring := PySem.W.mg_of X G a10
    f_ring_of := f_ring_of
    fd_ring_of := _
    F_ring_of := fun_mk (st := s_ring_of) l11 c11 k11
    b_ring_of := ((fun_mk (st := s_ring_of) l11 c11 k11).binds (ps := ["members", "first", "lists"]) fun _ _ _ _ _ _ us hl => match us, hl with | [_, _, _], _ => rfl)
    g_ring_of := PySem.W.mg_of X G a11
    f_l_tin := f_l_tin
    fd_l_tin := _
    F_l_tin := fun_mk (st := s_l_tin) l12 c12 k12
    b_l_tin := ((fun_mk (st := s_l_tin) l12 c12 k12).binds (ps := ["_law_script", "_law_k"]) fun _ _ _ _ _ _ us hl => match us, hl with | [_, _], _ => rfl)
    g_l_tin := PySem.W.mg_of X G a12
    f_l_pinch := f_l_pinch
    fd_l_pinch := _
    F_l_pinch := fun_mk (st := s_l_pinch) l13 c13 k13
    b_l_pinch := ((fun_mk (st := s_l_pinch) l13 c13 k13).binds (ps := ["_law_tin_here", "_law_many"]) fun _ _ _ _ _ _ us hl => match us, hl with | [_, _], _ => rfl)
    g_l_pinch := PySem.W.mg_of X G a13
    f_l_crew := f_l_crew
    fd_l_crew := _
    F_l_crew := fun_mk (st := s_l_crew) l14 c14 k14
    b_l_crew := ((fun_mk (st := s_l_crew) l14 c14 k14).binds (ps := ["_law_tin_here", "_law_most"]) fun _ _ _ _ _ _ us hl => match us, hl with | [_, _], _ => rfl)
    g_l_crew := PySem.W.mg_of X G a14
    f_l_walk := f_l_walk
    fd_l_walk := _
    F_l_walk := fun_mk (st := s_l_walk) l15 c15 k15
    b_l_walk := ((fun_mk (st := s_l_walk) l15 c15 k15).binds (ps := ["_law_tin_here", "_law_members", "_law_many"]) fun _ _ _ _ _ _ us hl => match us, hl with | [_, _, _], _ => rfl)
    g_l_walk := PySem.W.mg_of X G a15
    f_l_lists := f_l_lists
    fd_l_lists := _
    F_l_lists := fun_mk (st := s_l_lists) l16 c16 k16
    b_l_lists := ((fun_mk (st := s_l_lists) l16 c16 k16).binds (ps := ["_law_members", "_law_history"]) fun _ _ _ _ _ _ us hl => match us, hl with | [_, _], _ => rfl)
    g_l_lists := PySem.W.mg_of X G a16
    f_l_shuffled := f_l_shuffled
    fd_l_shuffled := _
    F_l_shuffled := fun_mk (st := s_l_shuffled) l17 c17 k17
    b_l_shuffled := ((fun_mk (st := s_l_shuffled) l17 c17 k17).binds (ps := ["_law_tin_here", "_law_things"]) fun _ _ _ _ _ _ us hl => match us, hl with | [_, _], _ => rfl)
    g_l_shuffled := PySem.W.mg_of X G a17
    f_l_known := f_l_known
    fd_l_known := _
    F_l_known := fun_mk (st := s_l_known) l18 c18 k18
    b_l_known := ((fun_mk (st := s_l_known) l18 c18 k18).binds (ps := ["_law_tin_here", "_law_members", "_law_lists_here"]) fun _ _ _ _ _ _ us hl => match us, hl with | [_, _, _], _ => rfl)
    g_l_known := PySem.W.mg_of X G a18
    f_l_any := f_l_any
    fd_l_any := _
    F_l_any := fun_mk (st := s_l_any) l19 c19 k19
    b_l_any := ((fun_mk (st := s_l_any) l19 c19 k19).binds (ps := ["_law_tin_here", "_law_members", "_law_many"]) fun _ _ _ _ _ _ us hl => match us, hl with | [_, _, _], _ => rfl)
    g_l_any := PySem.W.mg_of X G a19
    f_l_ring := f_l_ring
    fd_l_ring := _
    F_l_ring := fun_mk (st := s_l_ring) l20 c20 k20
    b_l_ring := ((fun_mk (st := s_l_ring) l20 c20 k20).binds (ps := ["_law_members", "_law_first", "_law_lists_here"]) fun _ _ _ _ _ _ us hl => match us, hl with | [_, _, _], _ => rfl)
    g_l_ring := PySem.W.mg_of X G a20
    f_l_right := f_l_right
    fd_l_right := _
    F_l_right := fun_mk (st := s_l_right) l21 c21 k21
    b_l_right := ((fun_mk (st := s_l_right) l21 c21 k21).binds (ps := ["_law_members", "_law_first", "_law_lists_here"]) fun _ _ _ _ _ _ us hl => match us, hl with | [_, _, _], _ => rfl)
    g_l_right := PySem.W.mg_of X G a21
    f_law := fa
    fd_law := _
    F_law := fun_mk (st := s_law) l22 c22 k22
    b_law := ((fun_mk (st := s_law) l22 c22 k22).binds (ps := ["_law_script"]) fun _ _ _ _ _ _ us hl => match us, hl with | [_], _ => rfl)
    g_law := PySem.W.mg_of X G a22
    t_LETTERS := t_LETTERS
    g_LETTERS := PySem.W.mg_of X G co_LETTERS
    t_MAX_LETTERS := t_MAX_LETTERS
    g_MAX_LETTERS := PySem.W.mg_of X G co_MAX_LETTERS
    t_MAX_MEMBERS := t_MAX_MEMBERS
    g_MAX_MEMBERS := PySem.W.mg_of X G co_MAX_MEMBERS
    z_abs := PySem.W.mg_none_of X G z_abs
    z_all := PySem.W.mg_none_of X G z_all
    z_dict := PySem.W.mg_none_of X G z_dict
    z_int := PySem.W.mg_none_of X G z_int
    z_isinstance := PySem.W.mg_none_of X G z_isinstance
    z_len := PySem.W.mg_none_of X G z_len
    z_list := PySem.W.mg_none_of X G z_list
    z_max := PySem.W.mg_none_of X G z_max
    z_min := PySem.W.mg_none_of X G z_min
    z_range := PySem.W.mg_none_of X G z_range
    z_repr := PySem.W.mg_none_of X G z_repr
    z_sorted := PySem.W.mg_none_of X G z_sorted
    z_str := PySem.W.mg_none_of X G z_str
    z_zip := PySem.W.mg_none_of X G z_zip }
  exact ⟨T.fd_law, fun s v => .of_eq rfl, fun base hb hn => ok_law T⟩
end K30
open PySem PySem.W PyProof.Rows
set_option maxHeartbeats 0 in
theorem PySem.Challenge.cw_gotfrom_k30_rings_of_known_lists_holds : PySem.Challenge.rw_gotfrom_k30_rings_of_known_lists.Holds := by
  w_on; o_law; k_head; (case hw => w_witness2)
  k_fill
  refine GF.walk_ofG (l := PySem.Challenge.rw_gotfrom_k30_rings_of_known_lists) (n := 63) (k := 7) (x := "_law_script") (sp := K30.spLaw) rfl (by decide) rfl ⟨rfl, by decide, by decide⟩ (fun w h Y => PySem.W.kIn_of Y) ?F (fun _ _ a ns hl hS => ⟨a, ns, rfl, hS, hl, fun _ => rfl⟩)
  case F =>
    intro w mg fa h KX G hmg
    refine' K30.all_mk KX G hmg ?a1 ?l1 ?c1 ?k1 ?a2 ?l2 ?c2 ?k2 ?a3 ?l3 ?c3 ?k3 ?a4 ?l4 ?c4 ?k4 ?a5 ?l5 ?c5 ?k5 ?a6 ?l6 ?c6 ?k6 ?a7 ?l7 ?c7 ?k7 ?a8 ?l8 ?c8 ?k8 ?a9 ?l9 ?c9 ?k9 ?a10 ?l10 ?c10 ?k10 ?a11 ?l11 ?c11 ?k11 ?a12 ?l12 ?c12 ?k12 ?a13 ?l13 ?c13 ?k13 ?a14 ?l14 ?c14 ?k14 ?a15 ?l15 ?c15 ?k15 ?a16 ?l16 ?c16 ?k16 ?a17 ?l17 ?c17 ?k17 ?a18 ?l18 ?c18 ?k18 ?a19 ?l19 ?c19 ?k19 ?a20 ?l20 ?c20 ?k20 ?a21 ?l21 ?c21 ?k21 ?a22 ?l22 ?c22 ?k22 ?co_LETTERS ?co_MAX_LETTERS ?co_MAX_MEMBERS ?z_abs ?z_all ?z_dict ?z_int ?z_isinstance ?z_len ?z_list ?z_max ?z_min ?z_range ?z_repr ?z_sorted ?z_str ?z_zip
    (case a1 => k_is)
    (case l1 => k_is)
    (case c1 => k_is)
    (case k1 => k_is)
    (case a2 => k_is)
    (case l2 => k_is)
    (case c2 => k_is)
    (case k2 => k_is)
    (case a3 => k_is)
    (case l3 => k_is)
    (case c3 => k_is)
    (case k3 => k_is)
    (case a4 => k_is)
    (case l4 => k_is)
    (case c4 => k_is)
    (case k4 => k_is)
    (case a5 => k_is)
    (case l5 => k_is)
    (case c5 => k_is)
    (case k5 => k_is)
    (case a6 => k_is)
    (case l6 => k_is)
    (case c6 => k_is)
    (case k6 => k_is)
    (case a7 => k_is)
    (case l7 => k_is)
    (case c7 => k_is)
    (case k7 => k_is)
    (case a8 => k_is)
    (case l8 => k_is)
    (case c8 => k_is)
    (case k8 => k_is)
    (case a9 => k_is)
    (case l9 => k_is)
    (case c9 => k_is)
    (case k9 => k_is)
    (case a10 => k_is)
    (case l10 => k_is)
    (case c10 => k_is)
    (case k10 => k_is)
    (case a11 => k_is)
    (case l11 => k_is)
    (case c11 => k_is)
    (case k11 => k_is)
    (case a12 => k_is)
    (case l12 => k_is)
    (case c12 => k_is)
    (case k12 => k_is)
    (case a13 => k_is)
    (case l13 => k_is)
    (case c13 => k_is)
    (case k13 => k_is)
    (case a14 => k_is)
    (case l14 => k_is)
    (case c14 => k_is)
    (case k14 => k_is)
    (case a15 => k_is)
    (case l15 => k_is)
    (case c15 => k_is)
    (case k15 => k_is)
    (case a16 => k_is)
    (case l16 => k_is)
    (case c16 => k_is)
    (case k16 => k_is)
    (case a17 => k_is)
    (case l17 => k_is)
    (case c17 => k_is)
    (case k17 => k_is)
    (case a18 => k_is)
    (case l18 => k_is)
    (case c18 => k_is)
    (case k18 => k_is)
    (case a19 => k_is)
    (case l19 => k_is)
    (case c19 => k_is)
    (case k19 => k_is)
    (case a20 => k_is)
    (case l20 => k_is)
    (case c20 => k_is)
    (case k20 => k_is)
    (case a21 => k_is)
    (case l21 => k_is)
    (case c21 => k_is)
    (case k21 => k_is)
    (case a22 => k_is)
    (case l22 => k_is)
    (case c22 => k_is)
    (case k22 => k_is)
    (case co_LETTERS => k_is)
    (case co_MAX_LETTERS => k_is)
    (case co_MAX_MEMBERS => k_is)
    (case z_abs => k_is)
    (case z_all => k_is)
    (case z_dict => k_is)
    (case z_int => k_is)
    (case z_isinstance => k_is)
    (case z_len => k_is)
    (case z_list => k_is)
    (case z_max => k_is)
    (case z_min => k_is)
    (case z_range => k_is)
    (case z_repr => k_is)
    (case z_sorted => k_is)
    (case z_str => k_is)
    (case z_zip => k_is)
#print axioms PySem.Challenge.cw_gotfrom_k30_rings_of_known_lists_holds
